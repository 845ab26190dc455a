import PyProof.Rows.All
import Wide.All
import OpenK.AllK
import Wide.FinOn
import HandS.ForMost
import HandS.IsInst
import HandS.Style
import HandS.StrMore
import HandS.Replace
import HandS.SortRule
import HandS.DictTup
import HandS.Deep
import HandS.TupSets
import HandS.Codes
import HandS.Walk
import HandS.TupLe
import KE.GoesMore
import KE.GoesNew
import KE.SortData
import HandS.Conv
import HandS.SetFor
import HandS.RevRange
import HandS.Exc
import HandS.ExcOwn
import HandS.WordsExc
import HandS.ExcIs
import HandS.TupLen
import PyProof.Rows.TupDisplay
import PySem.Challenge.RW_squarewalk_k09_whole_branches
set_option Elab.async false
set_option linter.all false
set_option maxRecDepth 100000
set_option maxHeartbeats 4000000
/-! Sw: data in the place of heaps. -/
namespace Sw
open PySem PySem.Spec PyProof.Rows L2

/-! ### frozen data: no list, no dict within -/
mutual
def fz : PyData → Bool
  | .list _ => false
  | .dict _ => false
  | .tuple ds => fzs ds
  | .none => true
  | .bool _ => true
  | .int _ => true
  | .str _ => true
def fzs : List PyData → Bool
  | [] => true
  | d :: ds => fz d && fzs ds
end
theorem fzs_append : ∀ a b : List PyData, fzs (a ++ b) = (fzs a && fzs b)
  | [], b => by simp [fzs]
  | d :: a, b => by simp [fzs, fzs_append a b, Bool.and_assoc]
theorem fzs_mem {d : PyData} : ∀ {ds : List PyData}, fzs ds = true → d ∈ ds → fz d = true
  | e :: ds, h, hm => by
    simp only [fzs, Bool.and_eq_true] at h
    rcases List.mem_cons.mp hm with rfl | hm
    · exact h.1
    · exact fzs_mem h.2 hm
theorem fzs_of : ∀ {ds : List PyData}, (∀ d ∈ ds, fz d = true) → fzs ds = true
  | [], _ => rfl
  | d :: ds, h => by
    simp only [fzs, Bool.and_eq_true]
    exact ⟨h d (List.mem_cons_self ..), fzs_of fun e m => h e (List.mem_cons_of_mem _ m)⟩
theorem fzs_map {α : Type} {f : α → PyData} {l : List α} (h : ∀ a, fz (f a) = true) : fzs (l.map f) = true := fzs_of fun d hd => by
  obtain ⟨a, _, rfl⟩ := List.mem_map.mp hd
  exact h a

/-! ### how the heap holds data: lists that can be read, tuples that are tracked, instances with their attributes -/
/-- an instance as data: its class, its attributes' names and contents -/
def obK (C : Addr) (ns : List Str) (ds : List PyData) : List (PyData × PyData) := [(.int (C : Nat), .tuple (ns.map PyData.str)), (.none, .tuple ds)]
def ob (C : Addr) (ns : List Str) (ds : List PyData) : PyData := .dict (obK C ns ds)
mutual
inductive Rp (K : PySem.W.Frag) (H : Hp) : V → PyData → Prop
  | non : Rp K H .non .none
  | bl (b : Bool) : Rp K H (.bl b) (.bool b)
  | int (i : Int) : Rp K H (.int i) (.int i)
  | str (x : Str) : Rp K H (.str x) (.str x)
  | lst {a : Addr} {xs : List V} {ds : List PyData} : SqL K H a xs → RpAll K H xs ds → Rp K H (.ref a) (.list ds)
  | tup {a : Addr} {xs : List V} {ds : List PyData} : H a = some (.tup xs) → RpAll K H xs ds → Rp K H (.ref a) (.tuple ds)
  | obj {a C dx : Addr} {fs : List (Str × V)} {ds : List PyData} {kvs : List (PyData × PyData)} : H a = some (.ins C dx fs) → kvs = obK C (fs.map (·.1)) ds → RpAll K H (fs.map (·.2)) ds → Rp K H (.ref a) (.dict kvs)
  /-- the empty dict -/
  | emp {a : Addr} : H a = some (.dK []) → Rp K H (.ref a) (.dict [])
inductive RpAll (K : PySem.W.Frag) (H : Hp) : List V → List PyData → Prop
  | nil : RpAll K H [] []
  | cons {v : V} {vs : List V} {d : PyData} {ds : List PyData} : Rp K H v d → RpAll K H vs ds → RpAll K H (v :: vs) (d :: ds)
end
theorem strs_inj : ∀ {a b : List Str}, a.map PyData.str = b.map PyData.str → a = b
  | [], [], _ => rfl
  | [], _ :: _, h => by simp at h
  | _ :: _, [], h => by simp at h
  | x :: a, y :: b, h => by
    rw [List.map_cons, List.map_cons] at h
    injection h with h1 h2
    injection h1 with h1
    rw [h1, strs_inj h2]
theorem ob_inv {K : PySem.W.Frag} {H : Hp} {v : V} {C : Addr} {ns : List Str} {ds : List PyData} (h : Rp K H v (ob C ns ds)) : ∃ a dx fs, v = .ref a ∧ H a = some (.ins C dx fs) ∧ fs.map (·.1) = ns ∧ RpAll K H (fs.map (·.2)) ds := by
  generalize hd : ob C ns ds = d at h
  cases h with
  | obj h1 h2 h3 =>
    rename_i a C' dx fs ds' kvs
    have e : obK C ns ds = obK C' (fs.map (·.1)) ds' := by
      rw [← h2]
      unfold ob at hd
      injection hd
    unfold obK at e
    injection e with e1 e2
    injection e1 with e3 e4
    injection e2 with e5 _
    injection e5 with _ e6
    injection e3 with e3
    injection e4 with e4
    injection e6 with e6
    have e7 : C = C' := Int.ofNat.inj e3
    subst e7 e6
    exact ⟨_, _, _, rfl, h1, (strs_inj e4).symm, h3⟩
  | _ => cases hd
mutual
/-- no dict, no instance within -/
def noD : PyData → Bool
  | .dict _ => false
  | .list ds => noDs ds
  | .tuple ds => noDs ds
  | .none => true
  | .bool _ => true
  | .int _ => true
  | .str _ => true
def noDs : List PyData → Bool
  | [] => true
  | d :: ds => noD d && noDs ds
end
mutual
theorem rp_dp {K : PySem.W.Frag} {H : Hp} : ∀ (d : PyData) (v : V), noD d = true → Rp K H v d → Dp K H v d
  | .none, _, _, h => by cases h; exact .non
  | .bool b, _, _, h => by cases h; exact .bl b
  | .int i, _, _, h => by cases h; exact .int i
  | .str x, _, _, h => by cases h; exact .str x
  | .list ds, _, n, h => by
    cases h with
    | lst hs ha => exact .lst hs (rps_dps ds _ (by simpa [noD] using n) ha)
  | .tuple ds, _, n, h => by
    cases h with
    | tup hs ha => exact .tup (.of hs) (rps_dps ds _ (by simpa [noD] using n) ha)
  | .dict _, _, n, h => by simp [noD] at n
theorem rps_dps {K : PySem.W.Frag} {H : Hp} : ∀ (ds : List PyData) (vs : List V), noDs ds = true → RpAll K H vs ds → DpAll K H vs ds
  | [], _, _, h => by cases h; exact .nil
  | d :: ds, _, n, h => by
    simp only [noDs, Bool.and_eq_true] at n
    cases h with
    | cons h1 h2 => exact .cons (rp_dp d _ n.1 h1) (rps_dps ds _ n.2 h2)
end

theorem same_rd {H H' : Hp} {a : Addr} {u : HO} (e : Same H H') (h : Rd H a u) : Rd H' a u := by
  rcases h with h | ⟨o, h⟩
  · exact .inl (e _ _ h)
  · exact .inr ⟨o, e _ _ h⟩
/-- what a change leaves: tuples -/
structure Keep (H H' : Hp) : Prop where
  t : ∀ a xs, H a = some (.tup xs) → H' a = some (.tup xs)

section
variable {K : PySem.W.Frag} {H H' : Hp}
mutual
theorem Rp.mono : ∀ {v : V} {d : PyData}, Rp K H v d → Same H H' → Rp K H' v d
  | _, _, .non, _ => .non
  | _, _, .bl b, _ => .bl b
  | _, _, .int i, _ => .int i
  | _, _, .str x, _ => .str x
  | _, _, .lst hs ha, e => .lst (e.seq hs) (RpAll.mono ha e)
  | _, _, .tup hs ha, e => .tup (e _ _ hs) (RpAll.mono ha e)
  | _, _, .obj hs hk ha, e => .obj (e _ _ hs) hk (RpAll.mono ha e)
  | _, _, .emp hs, e => .emp (e _ _ hs)
theorem RpAll.mono : ∀ {v : List V} {d : List PyData}, RpAll K H v d → Same H H' → RpAll K H' v d
  | _, _, .nil, _ => .nil
  | _, _, .cons h t, e => .cons (Rp.mono h e) (RpAll.mono t e)
end
mutual
theorem dkeep (e : Keep H H') : ∀ (d : PyData) (v : V), fz d = true → Rp K H v d → Rp K H' v d
  | .none, _, _, h => by cases h; exact .non
  | .bool b, _, _, h => by cases h; exact .bl b
  | .int i, _, _, h => by cases h; exact .int i
  | .str x, _, _, h => by cases h; exact .str x
  | .list ds, _, f, h => by simp [fz] at f
  | .tuple ds, _, f, h => by
    cases h with
    | tup hs ha => exact .tup (e.t _ _ hs) (dkeeps e ds _ (by simpa [fz] using f) ha)
  | .dict _, _, f, h => by simp [fz] at f
theorem dkeeps (e : Keep H H') : ∀ (ds : List PyData) (vs : List V), fzs ds = true → RpAll K H vs ds → RpAll K H' vs ds
  | [], _, _, h => by cases h; exact .nil
  | d :: ds, _, f, h => by
    cases h with
    | cons h1 h2 =>
      simp only [fzs, Bool.and_eq_true] at f
      exact .cons (dkeep e d _ f.1 h1) (dkeeps e ds _ f.2 h2)
end
theorem _root_.L2.Same.kp {H H' : Hp} (e : Same H H') : Keep H H' := ⟨fun _ _ h => e _ _ h⟩
theorem RpAll.len : ∀ {vs : List V} {ds : List PyData}, RpAll K H vs ds → vs.length = ds.length
  | _, _, .nil => rfl
  | _, _, .cons _ h => by rw [List.length_cons, List.length_cons, RpAll.len h]
theorem RpAll.append : ∀ {vs ws : List V} {ds es : List PyData}, RpAll K H vs ds → RpAll K H ws es → RpAll K H (vs ++ ws) (ds ++ es)
  | _, _, _, _, .nil, h => h
  | _, _, _, _, .cons h t, g => .cons h (RpAll.append t g)
theorem RpAll.get : ∀ {vs : List V} {ds : List PyData} {i : Nat} {d : PyData}, RpAll K H vs ds → ds[i]? = some d → ∃ v, vs[i]? = some v ∧ Rp K H v d
  | _, _, _, _, .nil, h => by simp at h
  | v :: _, _, 0, d, .cons h _, e => by
    simp at e
    subst e
    exact ⟨v, rfl, h⟩
  | _ :: _, _, i + 1, d, .cons _ t, e => by
    obtain ⟨v, h1, h2⟩ := RpAll.get (i := i) (d := d) t (by simpa using e)
    exact ⟨v, by simpa using h1, h2⟩
theorem RpAll.get' : ∀ {vs : List V} {ds : List PyData} {i : Nat} {v : V}, RpAll K H vs ds → vs[i]? = some v → ∃ d, ds[i]? = some d ∧ Rp K H v d
  | _, _, _, _, .nil, h => by simp at h
  | _ :: _, d :: _, 0, v, .cons h _, e => by
    simp at e
    subst e
    exact ⟨d, rfl, h⟩
  | _ :: _, _, i + 1, v, .cons _ t, e => by
    obtain ⟨d, h1, h2⟩ := RpAll.get' (i := i) (v := v) t (by simpa using e)
    exact ⟨d, by simpa using h1, h2⟩
theorem RpAll.take : ∀ {vs : List V} {ds : List PyData} (n : Nat), RpAll K H vs ds → RpAll K H (vs.take n) (ds.take n)
  | _, _, 0, _ => .nil
  | _, _, _ + 1, .nil => .nil
  | _, _, n + 1, .cons h t => .cons h (RpAll.take n t)
theorem RpAll.drop : ∀ {vs : List V} {ds : List PyData} (n : Nat), RpAll K H vs ds → RpAll K H (vs.drop n) (ds.drop n)
  | _, _, 0, h => h
  | _, _, _ + 1, .nil => .nil
  | _, _, n + 1, .cons _ t => RpAll.drop n t
theorem RpAll.dropLast : ∀ {vs : List V} {ds : List PyData}, RpAll K H vs ds → RpAll K H vs.dropLast ds.dropLast
  | _, _, .nil => .nil
  | _, _, .cons h .nil => .nil
  | _, _, .cons h (.cons h2 t) => .cons h (RpAll.dropLast (.cons h2 t))
theorem RpAll.set : ∀ {vs : List V} {ds : List PyData} (n : Nat) {v : V} {d : PyData}, RpAll K H vs ds → Rp K H v d → RpAll K H (vs.set n v) (ds.set n d)
  | _, _, _, _, _, .nil, _ => .nil
  | _, _, 0, _, _, .cons h t, g => .cons g t
  | _, _, n + 1, _, _, .cons h t, g => .cons h (RpAll.set n t g)
theorem RpAll.reverse : ∀ {vs : List V} {ds : List PyData}, RpAll K H vs ds → RpAll K H vs.reverse ds.reverse
  | _, _, .nil => .nil
  | _, _, .cons h t => by
    rw [List.reverse_cons, List.reverse_cons]
    exact RpAll.append (RpAll.reverse t) (.cons h .nil)
theorem RpAll.ints : ∀ (ns : List Int), RpAll K H (ns.map V.int) (ns.map PyData.int)
  | [] => .nil
  | n :: ns => .cons (.int n) (RpAll.ints ns)
theorem RpAll.strs : ∀ (ns : List Str), RpAll K H (ns.map V.str) (ns.map PyData.str)
  | [] => .nil
  | n :: ns => .cons (.str n) (RpAll.strs ns)
theorem ints_of : ∀ {vs : List V} {ns : List Int}, RpAll K H vs (ns.map PyData.int) → vs = ns.map V.int
  | _, [], .nil => rfl
  | _, n :: ns, .cons h t => by
    cases h
    rw [ints_of t]
    rfl
theorem strs_of : ∀ {vs : List V} {ns : List Str}, RpAll K H vs (ns.map PyData.str) → vs = ns.map V.str
  | _, [], .nil => rfl
  | _, n :: ns, .cons h t => by
    cases h
    rw [strs_of t]
    rfl
theorem bls_of : ∀ {vs : List V} {ns : List Bool}, RpAll K H vs (ns.map PyData.bool) → vs = ns.map V.bl
  | _, [], .nil => rfl
  | _, n :: ns, .cons h t => by
    cases h
    rw [bls_of t]
    rfl
end

/-! ### what a slot holds -/
/-- something that stands still, told by a relation -/
structure Fix where
  p : PySem.W.Frag → Hp → V → Prop
  mono : ∀ {K : PySem.W.Frag} {H H' : Hp} {v : V}, p K H v → Same H H' → p K H' v
  /-- what it is as data, where it is so -/
  d : Option PyData := none
  ok : ∀ {K : PySem.W.Frag} {H : Hp} {v : V} {x : PyData}, p K H v → d = some x → Rp K H v x := by intro _ _ _ _ _ z; cases z
inductive SV where
  /-- data -/
  | d (x : PyData)
  /-- a list of the def's own, which it may change -/
  | l (ds : List PyData)
  /-- a dict of the def's own, keys tuples -/
  | m (kvs : List (List Key × PyData))
  /-- a dict that is walked: it stands still -/
  | k (l : Addr) (kvs : List (List Key × PyData))
  /-- something else that stands still -/
  | g (R : Fix)
  /-- an instance of the def's own, its one attribute (places) a list of its own -/
  | o (C : Addr) (ds : List PyData)
def KvD (K : PySem.W.Frag) (H : Hp) : List (List Key × V) → List (List Key × PyData) → Prop := Paired fun p q => p.1 = q.1 ∧ Rp K H p.2 q.2
def vfz (kvs : List (List Key × PyData)) : Bool := fzs (kvs.map (·.2))
/-- as it is read at H -/
def SvE (K : PySem.W.Frag) (H : Hp) (v : V) : SV → Prop
  | .d x => Rp K H v x
  | .l ds => ∃ l vs, v = .ref l ∧ H l = some (.lst vs) ∧ RpAll K H vs ds
  | .m kvs => ∃ l kv, v = .ref l ∧ H l = some (.dT kv) ∧ KvD K H kv kvs
  | .k l kvs => ∃ kv, v = .ref l ∧ Rd H l (.dT kv) ∧ KvD K H kv kvs
  | .g R => R.p K H v
  | .o C ds => ∃ a dx l vs, v = .ref a ∧ H a = some (.ins C dx [("places", .ref l)]) ∧ H l = some (.lst vs) ∧ RpAll K H vs ds
/-- as it is kept: what stands still at B, what may change at H alone -/
def SvOk (K : PySem.W.Frag) (B H : Hp) (v : V) : SV → Prop
  | .d x => Rp K B v x ∨ (fz x = true ∧ Rp K H v x)
  | .l ds => ∃ l vs, v = .ref l ∧ B l = none ∧ H l = some (.lst vs) ∧ RpAll K H vs ds ∧ fzs ds = true
  | .m kvs => ∃ l kv, v = .ref l ∧ B l = none ∧ H l = some (.dT kv) ∧ KvD K H kv kvs ∧ vfz kvs = true
  | .k l kvs => ∃ kv, v = .ref l ∧ (∃ o, B l = some (.frz o (.dT kv))) ∧ KvD K H kv kvs ∧ vfz kvs = true
  | .g R => R.p K B v
  | .o C ds => ∃ a dx l vs, v = .ref a ∧ B a = some (.ins C dx [("places", .ref l)]) ∧ B l = none ∧ H l = some (.lst vs) ∧ RpAll K H vs ds ∧ fzs ds = true
def SV.own : SV → Bool
  | .d _ => false
  | .l _ => true
  | .m _ => true
  | .k _ _ => false
  | .g _ => false
  | .o _ _ => true
abbrev En := List (Option SV)
def EnvE (K : PySem.W.Frag) (H : Hp) (σ : L2.St) (env : En) : Prop := ∀ (i : Nat) (s : SV), env[i]? = some (some s) → ∃ v, σ[i]? = some (some v) ∧ SvE K H v s
structure StOk (K : PySem.W.Frag) (H0 B H : Hp) (σ : L2.St) (env : En) : Prop where
  e0 : Same H0 B
  e1 : Same B H
  len : σ.length = env.length
  sl : ∀ (i : Nat) (s : SV), env[i]? = some (some s) → ∃ v, σ[i]? = some (some v) ∧ SvOk K B H v s
  sep : ∀ (i j : Nat) (s t : SV) (v : V), env[i]? = some (some s) → env[j]? = some (some t) → s.own = true → t.own = true → σ[i]? = some (some v) → σ[j]? = some (some v) → i = j
section
variable {K : PySem.W.Frag} {H0 B B' H H' : Hp} {σ : L2.St} {env : En}
theorem KvD.mono (e : Same H H') : ∀ {kv : List (List Key × V)} {kvs : List (List Key × PyData)}, KvD K H kv kvs → KvD K H' kv kvs
  | _, _, .nil => .nil
  | _, _, .cons h t => .cons ⟨h.1, h.2.mono e⟩ (KvD.mono e t)
theorem KvD.keep (e : Keep H H') : ∀ {kv : List (List Key × V)} {kvs : List (List Key × PyData)}, vfz kvs = true → KvD K H kv kvs → KvD K H' kv kvs
  | _, _, _, .nil => .nil
  | _, _, f, .cons h t => by
    have f' : (fz _ && fzs _) = true := f
    rw [Bool.and_eq_true] at f'
    exact .cons ⟨h.1, dkeep e _ _ f'.1 h.2⟩ (KvD.keep e f'.2 t)
theorem SvE.mono {v : V} {s : SV} (h : SvE K H v s) (e : Same H H') : SvE K H' v s := by
  cases s with
  | d x => exact Rp.mono h e
  | l ds => obtain ⟨l, vs, h1, h2, h3⟩ := h; exact ⟨l, vs, h1, e _ _ h2, h3.mono e⟩
  | m kvs => obtain ⟨l, kv, h1, h2, h3⟩ := h; exact ⟨l, kv, h1, e _ _ h2, h3.mono e⟩
  | k l kvs => obtain ⟨kv, h1, h2, h3⟩ := h; exact ⟨kv, h1, same_rd e h2, h3.mono e⟩
  | g R => exact R.mono h e
  | o C ds => obtain ⟨a, dx, l, vs, h1, h2, h3, h4⟩ := h; exact ⟨a, dx, l, vs, h1, e _ _ h2, e _ _ h3, h4.mono e⟩
theorem EnvE.mono (h : EnvE K H σ env) (e : Same H H') : EnvE K H' σ env := fun i s hi => let ⟨v, h1, h2⟩ := h i s hi; ⟨v, h1, h2.mono e⟩
theorem SvOk.e (e1 : Same B H) {v : V} {s : SV} (h : SvOk K B H v s) : SvE K H v s := by
  cases s with
  | d x =>
    rcases h with h | h
    · exact Rp.mono h e1
    · exact h.2
  | l ds => obtain ⟨l, vs, h1, _, h2, h3, _⟩ := h; exact ⟨l, vs, h1, h2, h3⟩
  | m kvs => obtain ⟨l, kv, h1, _, h2, h3, _⟩ := h; exact ⟨l, kv, h1, h2, h3⟩
  | k l kvs => obtain ⟨kv, h1, ⟨o, h2⟩, h3, _⟩ := h; exact ⟨kv, h1, .inr ⟨o, e1 _ _ h2⟩, h3⟩
  | g R => exact R.mono h e1
  | o C ds => obtain ⟨a, dx, l, vs, h1, h2, h0, h3, h4, _⟩ := h; exact ⟨a, dx, l, vs, h1, e1 _ _ h2, h3, h4⟩
theorem StOk.e (h : StOk K H0 B H σ env) : EnvE K H σ env := fun i s hi => let ⟨v, h1, h2⟩ := h.sl i s hi; ⟨v, h1, h2.e h.e1⟩
/-- the heap grows -/
theorem SvOk.grow {v : V} {s : SV} (h : SvOk K B H v s) (e : Same H H') : SvOk K B H' v s := by
  cases s with
  | d x =>
    rcases h with h | h
    · exact .inl h
    · exact .inr ⟨h.1, h.2.mono e⟩
  | l ds => obtain ⟨l, vs, h1, h0, h2, h3, h4⟩ := h; exact ⟨l, vs, h1, h0, e _ _ h2, h3.mono e, h4⟩
  | m kvs => obtain ⟨l, kv, h1, h0, h2, h3, h4⟩ := h; exact ⟨l, kv, h1, h0, e _ _ h2, h3.mono e, h4⟩
  | k l kvs => obtain ⟨kv, h1, h2, h3, h4⟩ := h; exact ⟨kv, h1, h2, h3.mono e, h4⟩
  | g R => exact h
  | o C ds => obtain ⟨a, dx, l, vs, h1, h2, h0, h3, h4, h5⟩ := h; exact ⟨a, dx, l, vs, h1, h2, h0, e _ _ h3, h4.mono e, h5⟩
theorem StOk.grow (h : StOk K H0 B H σ env) (e : Same H H') : StOk K H0 B H' σ env :=
  ⟨h.e0, h.e1.trans e, h.len, fun i s hi => let ⟨v, h1, h2⟩ := h.sl i s hi; ⟨v, h1, h2.grow e⟩, h.sep⟩
theorem set_get {α : Type} {l : List α} {i j : Nat} {x y : α} (h : (l.set i x)[j]? = some y) : (j = i ∧ y = x) ∨ (j ≠ i ∧ l[j]? = some y) := by
  by_cases e : i = j
  · subst e
    by_cases hl : i < l.length
    · rw [List.getElem?_set_self hl] at h
      exact .inl ⟨rfl, (Option.some.inj h).symm⟩
    · rw [List.getElem?_eq_none (by simpa using hl)] at h
      cases h
  · rw [List.getElem?_set_ne e] at h
    exact .inr ⟨fun z => e z.symm, h⟩
/-- a slot takes a new value -/
theorem StOk.put (h : StOk K H0 B H σ env) {i : Nat} {v : V} {s : SV} (hv : SvOk K B H v s)
    (hs : s.own = true → ∀ (j : Nat) (t : SV) , j ≠ i → env[j]? = some (some t) → t.own = true → σ[j]? ≠ some (some v)) : StOk K H0 B H (σ.set i (some v)) (env.set i (some s)) := by
  have at_ : ∀ (j : Nat) (t : SV), (env.set i (some s))[j]? = some (some t) → (j = i ∧ t = s ∧ (σ.set i (some v))[j]? = some (some v)) ∨ (j ≠ i ∧ env[j]? = some (some t) ∧ (σ.set i (some v))[j]? = σ[j]?) := by
    intro j t hj
    rcases set_get hj with ⟨rfl, e⟩ | ⟨ne, e⟩
    · refine .inl ⟨rfl, Option.some.inj e, ?_⟩
      have hlt : j < (env.set j (some s)).length := (List.getElem?_eq_some_iff.mp hj).1
      rw [List.length_set, ← h.len] at hlt
      exact List.getElem?_set_self hlt
    · exact .inr ⟨ne, e, List.getElem?_set_ne (fun z => ne z.symm)⟩
  refine ⟨h.e0, h.e1, by rw [List.length_set, List.length_set, h.len], fun j t hj => ?_, fun j k t u w hj hk oj ok wj wk => ?_⟩
  · rcases at_ j t hj with ⟨_, rfl, e⟩ | ⟨_, e1, e2⟩
    · exact ⟨v, e, hv⟩
    · obtain ⟨w, h1, h2⟩ := h.sl j t e1
      exact ⟨w, by rw [e2]; exact h1, h2⟩
  · rcases at_ j t hj with ⟨rfl, rfl, e⟩ | ⟨nj, e1, e2⟩
    · rcases at_ k u hk with ⟨rfl, rfl, e'⟩ | ⟨nk, e1', e2'⟩
      · rfl
      · rw [e] at wj
        cases wj
        rw [e2'] at wk
        exact absurd wk (hs oj k u nk e1' ok)
    · rcases at_ k u hk with ⟨rfl, rfl, e'⟩ | ⟨nk, e1', e2'⟩
      · rw [e'] at wk
        cases wk
        rw [e2] at wj
        exact absurd wj (hs ok j t nj e1 oj)
      · rw [e2] at wj
        rw [e2'] at wk
        exact h.sep j k t u w e1 e1' oj ok wj wk
/-- fewer slots are known -/
inductive Le : En → En → Prop
  | nil : Le [] []
  | skip {a : Option SV} {l m : En} : Le l m → Le (none :: l) (a :: m)
  | keep {a b : Option SV} {l m : En} : a = b → Le l m → Le (a :: l) (b :: m)
theorem Le.get : ∀ {l m : En}, Le l m → ∀ (i : Nat) (s : SV), l[i]? = some (some s) → m[i]? = some (some s)
  | _, _, .nil, i, s, h => by simp at h
  | _, _, .skip t, 0, s, h => by simp at h
  | _, _, .skip t, i + 1, s, h => by
    have := Le.get t i s (by simpa using h)
    simpa using this
  | _, _, .keep e t, 0, s, h => by
    subst e
    simpa using h
  | _, _, .keep e t, i + 1, s, h => by
    have := Le.get t i s (by simpa using h)
    simpa using this
theorem Le.len : ∀ {l m : En}, Le l m → l.length = m.length
  | _, _, .nil => rfl
  | _, _, .skip t => by simp [Le.len t]
  | _, _, .keep _ t => by simp [Le.len t]
theorem Le.refl : ∀ (l : En), Le l l
  | [] => .nil
  | _ :: l => .keep rfl (Le.refl l)
theorem StOk.le {e' : En} (h : StOk K H0 B H σ env) (g : Le e' env) : StOk K H0 B H σ e' :=
  ⟨h.e0, h.e1, h.len.trans g.len.symm, fun i s hi => h.sl i s (g.get i s hi), fun i j s t v hi hj => h.sep i j s t v (g.get i s hi) (g.get j t hj)⟩
theorem StOk.base {G : Hp} (h : StOk K H0 B H σ env) (e : Same G H0) : StOk K G B H σ env := ⟨e.trans h.e0, h.e1, h.len, h.sl, h.sep⟩
end

/-! ### what expressions are worth -/
def tD (K : PySem.W.Frag) (env : En) (d : PyData) : TE := fun σ H Q => EnvE K H σ env ∧ ∀ v H', Same H H' → Rp K H' v d → Q v H'
def tL (K : PySem.W.Frag) (env : En) (ds : List PyData) : TE := fun σ H Q => EnvE K H σ env ∧ ∀ l vs H', Same H H' → H l = none → H' l = some (.lst vs) → RpAll K H' vs ds → Q (.ref l) H'
def tDs (K : PySem.W.Frag) (env : En) (ds : List PyData) : TA := fun σ H Q => EnvE K H σ env ∧ ∀ vs H', Same H H' → RpAll K H' vs ds → Q vs H'
def tP (K : PySem.W.Frag) (env : En) (b : Bool) : TT := fun σ H Q => EnvE K H σ env ∧ ∀ H', Same H H' → Q b H'
abbrev Ev (X : Cx) (env : En) (e : Expr) (d : PyData) : Prop := PE X e (tD X.K env d)
abbrev EvL (X : Cx) (env : En) (e : Expr) (ds : List PyData) : Prop := PE X e (tL X.K env ds)
abbrev EvA (X : Cx) (env : En) (es : List Expr) (ds : List PyData) : Prop := PA X es (tDs X.K env ds)
abbrev EvT (X : Cx) (env : En) (e : Expr) (b : Bool) : Prop := PT X e (tP X.K env b)
section
variable {X : Cx} {env : En} {e a b : Expr} {pos : Pos}
theorem wkE {t t' : TE} (h : PE X e t) (w : ∀ σ H Q, t' σ H Q → t σ H Q) : PE X e t' := ⟨fun pins s σ H Q I q => h.run pins s σ H Q I (w σ H Q q)⟩
theorem wkT {t t' : TT} (h : PT X e t) (w : ∀ σ H Q, t' σ H Q → t σ H Q) : PT X e t' := ⟨fun pins s σ H Q I q => h.run pins s σ H Q I (w σ H Q q)⟩
theorem wkW {t t' : TT} (h : PW X e t) (w : ∀ σ H Q, t' σ H Q → t σ H Q) : PW X e t' := ⟨fun whole pins s σ H Q I q => h.run whole pins s σ H Q I (w σ H Q q)⟩
theorem wkA {es : List Expr} {t t' : TA} (h : PA X es t) (w : ∀ σ H Q, t' σ H Q → t σ H Q) : PA X es t' := ⟨fun pos pins s σ H Q I q => h.run pos pins s σ H Q I (w σ H Q q)⟩
theorem EvL.d {ds : List PyData} (h : EvL X env e ds) : Ev X env e (.list ds) := wkE h fun σ H Q ⟨he, q⟩ => ⟨he, fun l vs H' s _ hl hd => q _ H' s (.lst (.of hl) hd)⟩
theorem Ev.is {d d' : PyData} (h : Ev X env e d) (he : d = d') : Ev X env e d' := he ▸ h
theorem EvL.is {d d' : List PyData} (h : EvL X env e d) (he : d = d') : EvL X env e d' := he ▸ h
theorem EvT.is {d d' : Bool} (h : EvT X env e d) (he : d = d') : EvT X env e d' := he ▸ h
/-- what a slot's content is as data -/
def svd : SV → Option PyData
  | .d x => some x
  | .l ds => some (.list ds)
  | .m _ => none
  | .k _ _ => none
  | .g R => R.d
  | .o C ds => some (ob C ["places"] [.list ds])
theorem svd_ok {K : PySem.W.Frag} {H : Hp} {v : V} {s : SV} {d : PyData} (h : SvE K H v s) (e : svd s = some d) : Rp K H v d := by
  cases s with
  | d x => cases e; exact h
  | l ds => cases e; obtain ⟨l, vs, rfl, h2, h3⟩ := h; exact .lst (.of h2) h3
  | m _ => cases e
  | k _ _ => cases e
  | g R => exact R.ok h e
  | o C ds => cases e; obtain ⟨a, dx, l, vs, rfl, h2, h3, h4⟩ := h; exact .obj h2 rfl (.cons (.lst (.of h3) h4) .nil)
theorem ev_name (i : Nat) {x : Str} {s : SV} {d : PyData} (hN : X.N[i]? = some x) (hv : Vis X.env.scope x) (he : env[i]? = some (some s)) (hd : svd s = some d) (hb : (x == ("__debug__" : Str)) = false := by decide)
    (hcd : (x == ("__classdict__" : Str)) = false := by decide) : Ev X env (.Name x pos) d := wkE (pe_var hN hv hb hcd) fun σ H Q ⟨h, q⟩ => by
  obtain ⟨v, h1, h2⟩ := h i s he
  exact ⟨v, h1, q v H (Same.refl H) (svd_ok h2 hd)⟩
theorem ev_int {i : Int} {j} : Ev X env (.Constant (.int i) j pos) (.int i) := wkE pe_int fun _ H Q ⟨_, q⟩ => q _ H (Same.refl H) (.int i)
theorem ev_bl {i : Bool} {j} : Ev X env (.Constant (.bool i) j pos) (.bool i) := wkE pe_bl fun _ H Q ⟨_, q⟩ => q _ H (Same.refl H) (.bl i)
theorem ev_non {j} : Ev X env (.Constant .none j pos) .none := wkE pe_non fun _ H Q ⟨_, q⟩ => q _ H (Same.refl H) .non
theorem ev_str {x : Str} {j} : Ev X env (.Constant (.str x) j pos) (.str x) := wkE pe_str fun _ H Q ⟨_, q⟩ => q _ H (Same.refl H) (.str x)
theorem ev_globS {x z : Str} {t : Tok} (hg : Gl X x) (hm : X.mg x = some (.str z t)) (hd : (x == ("__debug__" : Str)) = false := by decide) : Ev X env (.Name x pos) (.str z) := wkE (pe_glob (v := .str z) hg hm ⟨t, rfl⟩ hd) fun _ H Q ⟨_, q⟩ => q _ H (Same.refl H) (.str z)

/-! operators by data -/
def OpD (K : PySem.W.Frag) (r : R2) (x y z : PyData) : Prop := ∀ (H : Hp) (v u : V) (Q : VK), Rp K H v x → Rp K H u y → (∀ w H', Same H H' → Rp K H' w z → Q w H') → r v u H Q
def OpDL (K : PySem.W.Frag) (r : R2) (x y : PyData) (zs : List PyData) : Prop := ∀ (H : Hp) (v u : V) (Q : VK), Rp K H v x → Rp K H u y → (∀ l vs H', Same H H' → H l = none → H' l = some (.lst vs) → RpAll K H' vs zs → Q (.ref l) H') → r v u H Q
def Bin (X : Cx) (op : Operator) (x y z : PyData) : Prop := ∃ r, OpR X (binaryOp op) r ∧ OpD X.K r x y z
def Cmp (X : Cx) (op : CmpOp) (x y : PyData) (z : Bool) : Prop := ∃ r, OpR X (compareOp op) r ∧ OpD X.K r x y (.bool z)
theorem tOp_ok {r : R2} {x y z : PyData} (hr : OpD X.K r x y z) : ∀ σ H Q, tD X.K env z σ H Q → tOp r (tD X.K env x) (tD X.K env y) σ H Q := fun σ H Q ⟨he, q⟩ =>
  ⟨he, fun v H1 s1 d1 => ⟨he.mono s1, fun u H2 s2 d2 => hr H2 v u Q (d1.mono s2) d2 fun w H3 s3 d3 => q w H3 (s1.trans (s2.trans s3)) d3⟩⟩
theorem ev_bin {op : Operator} {x y z : PyData} (ha : Ev X env a x) (hb : Ev X env b y) (hr : Bin X op x y z) : Ev X env (.BinOp a op b pos) z := by
  obtain ⟨r, ho, hd⟩ := hr
  exact wkE (pe_op ho ha hb) (tOp_ok hd)
theorem ev_cmp {op : CmpOp} {x y : PyData} {z : Bool} (ha : Ev X env a x) (hb : Ev X env b y) (hr : Cmp X op x y z) (hm : behindInMarks op b = false) : Ev X env (.Compare a [op] [b] pos) (.bool z) := by
  obtain ⟨r, ho, hd⟩ := hr
  exact wkE (pe_cmpR ho ha hb hm) (tOp_ok hd)
theorem et_cmp {op : CmpOp} {x y : PyData} {z : Bool} (ha : Ev X env a x) (hb : Ev X env b y) (hr : Cmp X op x y z) (hm : behindInMarks op b = false) : EvT X env (.Compare a [op] [b] pos) z := by
  obtain ⟨r, ho, hd⟩ := hr
  exact wkT (pt_cmpR ho ha hb hm) fun σ H Q ⟨he, q⟩ => tOp_ok hd σ H _ ⟨he, fun v H' s d => by cases d; exact ⟨z, rfl, q H' s⟩⟩
theorem et_val {z : Bool} (h : Ev X env e (.bool z)) (he : ∀ whole, isTrue e X.env whole = (do let v ← whole; standAt e.pos; holding [v] (truthy v)) := by intro _; rfl) : EvT X env e z :=
  wkT (pt_val h he) fun σ H Q ⟨he, q⟩ => ⟨he, fun v H' s d => by cases d; exact ⟨z, rfl, q H' s⟩⟩
theorem et_not {z : Bool} (h : EvT X env e z) : EvT X env (.UnaryOp .Not e pos) (!z) := wkT (pt_not h) fun σ H Q ⟨he, q⟩ => ⟨he, fun H' s => q H' s⟩
theorem ev_not {z : Bool} (h : Ev X env e (.bool z)) : Ev X env (.UnaryOp .Not e pos) (.bool (!z)) := wkE (pe_not h) fun σ H Q ⟨he, q⟩ => ⟨he, fun v H' s d => by cases d; exact ⟨z, rfl, q _ H' s (.bl _)⟩⟩
abbrev EvW (X : Cx) (env : En) (e : Expr) (b : Bool) : Prop := PW X e (tP X.K env b)
theorem ew_and1 {z : Bool} (h : EvT X env a z) : EvW X env (.BoolOp .And [a] pos) z := pw_and1 h
theorem ew_or1 {z : Bool} (h : EvT X env a z) : EvW X env (.BoolOp .Or [a] pos) z := pw_or1 h
theorem ew_and {rest : List Expr} {x y : Bool} (h1 : EvT X env a x) (h2 : x = true → EvW X env (.BoolOp .And (b :: rest) pos) y) : EvW X env (.BoolOp .And (a :: b :: rest) pos) (x && y) := by
  cases x with
  | true => exact wkW (pw_and h1 (h2 rfl)) fun σ H Q ⟨he, q⟩ => ⟨he, fun H1 s1 => iteT ⟨he.mono s1, fun H2 s2 => q H2 (s1.trans s2)⟩⟩
  | false =>
    refine wkW (pw_and h1 (tB' := fun _ _ _ => False) ⟨fun _ _ _ _ _ _ _ q => q.elim⟩) fun σ H Q ⟨he, q⟩ => ⟨he, fun H1 s1 => iteF (q H1 s1)⟩
theorem ew_or {rest : List Expr} {x y : Bool} (h1 : EvT X env a x) (h2 : x = false → EvW X env (.BoolOp .Or (b :: rest) pos) y) : EvW X env (.BoolOp .Or (a :: b :: rest) pos) (x || y) := by
  cases x with
  | false => exact wkW (pw_or h1 (h2 rfl)) fun σ H Q ⟨he, q⟩ => ⟨he, fun H1 s1 => iteF ⟨he.mono s1, fun H2 s2 => q H2 (s1.trans s2)⟩⟩
  | true =>
    refine wkW (pw_or h1 (tB' := fun _ _ _ => False) ⟨fun _ _ _ _ _ _ _ q => q.elim⟩) fun σ H Q ⟨he, q⟩ => ⟨he, fun H1 s1 => iteT (q H1 s1)⟩
theorem et_w {z : Bool} (h : EvW X env e z) : EvT X env e z := h.pt
theorem ev_one {op} {d : PyData} (h : Ev X env a d) : Ev X env (.BoolOp op [a] pos) d := pe_one h
theorem ev_and {rest : List Expr} {x : Bool} {y : PyData} (h1 : Ev X env a (.bool x)) (h2 : x = true → Ev X env (.BoolOp .And (b :: rest) pos) y) : Ev X env (.BoolOp .And (a :: b :: rest) pos) (if x = true then y else .bool false) := by
  cases x with
  | true => exact wkE (pe_and h1 (h2 rfl)) fun σ H Q ⟨he, q⟩ => ⟨he, fun v H1 s1 d1 => by cases d1; exact ⟨true, rfl, iteT ⟨he.mono s1, fun w H2 s2 d2 => q w H2 (s1.trans s2) d2⟩⟩⟩
  | false =>
    refine wkE (pe_and h1 (tb := fun _ _ _ => False) ⟨fun _ _ _ _ _ _ q => q.elim⟩) fun σ H Q ⟨he, q⟩ => ⟨he, fun v H1 s1 d1 => by cases d1; exact ⟨false, rfl, iteF (q _ H1 s1 (.bl false))⟩⟩
theorem ev_or {rest : List Expr} {x : Bool} {y : PyData} (h1 : Ev X env a (.bool x)) (h2 : x = false → Ev X env (.BoolOp .Or (b :: rest) pos) y) : Ev X env (.BoolOp .Or (a :: b :: rest) pos) (if x = true then .bool true else y) := by
  cases x with
  | false => exact wkE (pe_or h1 (h2 rfl)) fun σ H Q ⟨he, q⟩ => ⟨he, fun v H1 s1 d1 => by cases d1; exact ⟨false, rfl, iteF ⟨he.mono s1, fun w H2 s2 d2 => q w H2 (s1.trans s2) d2⟩⟩⟩
  | true =>
    refine wkE (pe_or h1 (tb := fun _ _ _ => False) ⟨fun _ _ _ _ _ _ q => q.elim⟩) fun σ H Q ⟨he, q⟩ => ⟨he, fun v H1 s1 d1 => by cases d1; exact ⟨true, rfl, iteT (q _ H1 s1 (.bl true))⟩⟩
theorem ev_if {c : Expr} {z : Bool} {x y : PyData} (hc : EvT X env c z) (h1 : z = true → Ev X env a x) (h2 : z = false → Ev X env b y) : Ev X env (.IfExp c a b pos) (if z = true then x else y) := by
  cases z with
  | true => exact wkE (pe_ifExp hc (h1 rfl) (tb := fun _ _ _ => False) ⟨fun _ _ _ _ _ _ q => q.elim⟩) fun σ H Q ⟨he, q⟩ => ⟨he, fun H1 s1 => iteT ⟨he.mono s1, fun w H2 s2 d2 => q w H2 (s1.trans s2) d2⟩⟩
  | false => exact wkE (pe_ifExp hc (ta := fun _ _ _ => False) ⟨fun _ _ _ _ _ _ q => q.elim⟩ (h2 rfl)) fun σ H Q ⟨he, q⟩ => ⟨he, fun H1 s1 => iteF ⟨he.mono s1, fun w H2 s2 d2 => q w H2 (s1.trans s2) d2⟩⟩

/-! arguments, displays -/
theorem ea_nil : EvA X env [] [] := wkA pa_nil fun σ H Q ⟨_, q⟩ => q [] H (Same.refl H) .nil
theorem ea_cons {es : List Expr} {d : PyData} {ds : List PyData} (h : Ev X env e d) (hr : EvA X env es ds) (hs : starEach (e :: es) X.env = (false, eval e X.env) :: starEach es X.env := by rfl) : EvA X env (e :: es) (d :: ds) :=
  wkA (pa_cons h hr hs) fun σ H Q ⟨he, q⟩ => ⟨he, fun v H1 s1 d1 => ⟨he.mono s1, fun vs H2 s2 d2 => q (v :: vs) H2 (s1.trans s2) (.cons (d1.mono s2) d2)⟩⟩
theorem same_new {H : Hp} {p : Addr} {o : HO} (h : H p = none) : Same H (upd H p o) := fun b x e => by
  rw [upd_ne (ne_of_none e h)]
  exact e
theorem ev_tup {es : List Expr} {x1} {ds : List PyData} (h : EvA X env es ds) (hl : ds.length ≤ 1000 := by simp) : Ev X env (.Tuple es x1 pos) (.tuple ds) := wkE (pe_tup h) fun σ H Q ⟨he, q⟩ =>
  ⟨he, fun vs H1 s1 d1 => ⟨by rw [d1.len]; exact Nat.le_of_lt (small1000 hl), fun p hp => q _ _ (s1.trans (same_new hp)) (.tup upd_same (d1.mono (same_new hp)))⟩⟩
theorem evl_lst {es : List Expr} {ds : List PyData} (h : EvA X env es ds) (hl : ds.length ≤ 1000 := by simp) : EvL X env (.List es pos) ds := wkE (pe_lst h) fun σ H Q ⟨he, q⟩ =>
  ⟨he, fun vs H1 s1 d1 => ⟨by rw [d1.len]; exact Nat.le_of_lt (small1000 hl), fun p hp => q p vs _ (s1.trans (same_new hp)) (s1.free hp) upd_same (d1.mono (same_new hp))⟩⟩
/-- a unary operator -/
def Un1 (X : Cx) (op : UnaryOp) (x z : PyData) : Prop := ∃ r, UnR X (unaryOp op) r ∧ ∀ (H : Hp) (v : V) (Q : VK), Rp X.K H v x → (∀ w H', Same H H' → Rp X.K H' w z → Q w H') → r v H Q
theorem ev_un {op : UnaryOp} {x z : PyData} (ha : Ev X env a x) (hr : Un1 X op x z) : Ev X env (.UnaryOp op a pos) z := by
  obtain ⟨r, ho, hd⟩ := hr
  exact wkE (pe_un ho ha) fun σ H Q ⟨he, q⟩ => ⟨he, fun v H1 s1 d1 => hd H1 v Q d1 fun w H2 s2 d2 => q w H2 (s1.trans s2) d2⟩
/-- a subscript -/
def Ix (X : Cx) (x y z : PyData) : Prop := ∃ r, IxR X r ∧ OpD X.K r x y z
theorem ev_ix {x y z : PyData} (ha : Ev X env a x) (hb : Ev X env b y) (hr : Ix X x y z) (hs : PlainIx b := by exact fun _ _ => rfl) : Ev X env (.Subscript a b pos) z := by
  obtain ⟨r, ho, hd⟩ := hr
  exact wkE (pe_ix ho ha hb hs) (tOp_ok hd)
/-- a call of a builtin, of a builtin class, by its name -/
def CallD (X : Cx) (f : Value) (ds : List PyData) (z : PyData) : Prop := ∃ r, CallR X f r ∧ ∀ (H : Hp) (vs : List V) (Q : VK), RpAll X.K H vs ds → (∀ w H', Same H H' → Rp X.K H' w z → Q w H') → r vs H Q
def CallL (X : Cx) (f : Value) (ds zs : List PyData) : Prop := ∃ r, CallR X f r ∧ ∀ (H : Hp) (vs : List V) (Q : VK), RpAll X.K H vs ds → (∀ l us H', Same H H' → H l = none → H' l = some (.lst us) → RpAll X.K H' us zs → Q (.ref l) H') → r vs H Q
theorem ev_callB {x : Str} {p : Pos} {id : String} {es : List Expr} {ds : List PyData} {z : PyData} (hc : CallD X (.builtin id) ds z) (hg : Gl X x) (hm : X.mg x = none) (hv : bootBuiltins x = some (.builtin id)) (ha : EvA X env (e :: es) ds)
    (hn : x ≠ "__name__" := by decide) (hdb : (x == ("__debug__" : Str)) = false := by decide)
    (hs : starEach (e :: es) X.env = (false, eval e X.env) :: starEach es X.env := by rfl) (hpl : (backTo pos (starEach es X.env)).any (·.1) = false := by rfl) : Ev X env (.Call (.Name x p) (e :: es) [] pos) z := by
  obtain ⟨r, ho, hd⟩ := hc
  exact wkE (pe_callB ho hg hm hv ha hn hdb hs hpl) fun σ H Q ⟨he, q⟩ => ⟨he, fun vs H1 s1 d1 => hd H1 vs Q d1 fun w H2 s2 d2 => q w H2 (s1.trans s2) d2⟩
end
end Sw

namespace Sw
open PySem PySem.Spec PyProof.Rows L2

/-! ### statements -/
section
variable {K : PySem.W.Frag} {H0 B H H1 : Hp} {σ : L2.St} {env : En}
theorem own_ne {l : Addr} (S : StOk K H0 B H σ env) (hl : H l = none) {j : Nat} {t : SV} (hj : env[j]? = some (some t)) (ot : t.own = true) : σ[j]? ≠ some (some (.ref l)) := fun z => by
  obtain ⟨v, hv, ok⟩ := S.sl j t hj
  rw [hv] at z
  cases z
  cases t with
  | d _ => cases ot
  | k _ _ => cases ot
  | g _ => cases ot
  | o C ds => obtain ⟨a, dx, l', vs, e, h2, _⟩ := ok; cases e; have := S.e1 _ _ h2; rw [hl] at this; cases this
  | l ds => obtain ⟨l', vs', e, _, h2, _⟩ := ok; cases e; rw [hl] at h2; cases h2
  | m kvs => obtain ⟨l', vs', e, _, h2, _⟩ := ok; cases e; rw [hl] at h2; cases h2
/-- the heap changes at an own list: the other slots -/
theorem SvOk.chg {v : V} {s : SV} {l : Addr} {o o' : HO} (h : SvOk K B H v s) (hB : B l = none) (hl : H l = some o) (mu : ∀ xs, o ≠ .tup xs) (ne : s.own = true → v ≠ .ref l) (no : ∀ C ds, s ≠ .o C ds) : SvOk K B (upd H l o') v s := by
  have kp : Keep H (upd H l o') := ⟨fun a xs e => by rw [upd_ne (fun z => by rw [z, hl] at e; exact mu xs (Option.some.inj e))]; exact e⟩
  cases s with
  | d x =>
    rcases h with h | h
    · exact .inl h
    · exact .inr ⟨h.1, dkeep kp _ _ h.1 h.2⟩
  | l ds =>
    obtain ⟨p, vs, rfl, h0, h1, h2, h3⟩ := h
    exact ⟨p, vs, rfl, h0, by rw [upd_ne (fun z => ne rfl (by rw [z]))]; exact h1, dkeeps kp _ _ h3 h2, h3⟩
  | m kvs =>
    obtain ⟨p, vs, rfl, h0, h1, h2, h3⟩ := h
    exact ⟨p, vs, rfl, h0, by rw [upd_ne (fun z => ne rfl (by rw [z]))]; exact h1, KvD.keep kp h3 h2, h3⟩
  | k l' kvs => obtain ⟨kv, h1, h2, h3, h4⟩ := h; exact ⟨kv, h1, h2, h3.keep kp h4, h4⟩
  | g R => exact h
  | o C ds => exact absurd rfl (no C ds)
def noObj (env : En) : Bool := env.all fun o => match o with
  | some (.o _ _) => false
  | _ => true
theorem noObj_at {env : En} (h : noObj env = true) {i : Nat} {s : SV} (hi : env[i]? = some (some s)) : ∀ C ds, s ≠ .o C ds := fun C ds e => by
  have := List.all_eq_true.mp h (some s) (List.mem_of_getElem? hi)
  rw [e] at this
  cases this
theorem keep_upd {l : Addr} {o o' : HO} (hl : H l = some o) (mu : ∀ xs, o ≠ .tup xs) : Keep H (upd H l o') := ⟨fun a xs e => by rw [upd_ne (fun z => by rw [z, hl] at e; exact mu xs (Option.some.inj e))]; exact e⟩
/-- .. the own slot itself takes its new content -/
theorem StOk.chg (S : StOk K H0 B H σ env) {i : Nat} {s t : SV} {l : Addr} {o o' : HO} (hi : env[i]? = some (some s)) (so : s.own = true) (hs : σ[i]? = some (some (.ref l))) (hB : B l = none) (hl : H l = some o) (mu : ∀ xs, o ≠ .tup xs)
    (ht : SvOk K B (upd H l o') (.ref l) t) (no : noObj env = true) : StOk K H0 B (upd H l o') σ (env.set i (some t)) := by
  have hlt : i < env.length := (List.getElem?_eq_some_iff.mp hi).1
  refine ⟨S.e0, fun b x e => ?_, by rw [List.length_set]; exact S.len, fun j u hj => ?_, fun j k u w v hj hk oj ok vj vk => ?_⟩
  · rw [upd_ne (ne_of_none e hB)]
    exact S.e1 b x e
  · rcases set_get hj with ⟨rfl, e⟩ | ⟨ne, e⟩
    · cases e
      exact ⟨_, hs, ht⟩
    · obtain ⟨v, h1, h2⟩ := S.sl j u e
      refine ⟨v, h1, h2.chg hB hl mu (fun ou z => ne ?_) (noObj_at no e)⟩
      subst z
      exact S.sep j i u s _ e hi ou so h1 hs
  · rcases set_get hj with ⟨rfl, e⟩ | ⟨ne, e⟩
    · rcases set_get hk with ⟨rfl, e'⟩ | ⟨ne', e'⟩
      · rfl
      · exact S.sep j k s w v hi e' so ok vj vk
    · rcases set_get hk with ⟨rfl, e'⟩ | ⟨ne', e'⟩
      · exact S.sep j k u s v e hi oj so vj vk
      · exact S.sep j k u w v e e' oj ok vj vk
/-- what may change, hidden -/
def Chg (o : Option HO) : Prop := match o with
  | some (.lst _) => True
  | some (.dT _) => True
  | _ => False
open Classical in
noncomputable def hide (B H H1 : Hp) : Hp := fun a => if Chg (H a) ∧ B a = none then none else H1 a
theorem hide_same (e : Same H H1) : Same (hide B H H1) H1 := fun b o h => by
  unfold hide at h
  split at h
  · cases h
  · exact h
theorem hide_base (e1 : Same B H) (e : Same H H1) : Same B (hide B H H1) := fun b o h => by
  unfold hide
  rw [if_neg (fun z => by rw [z.2] at h; cases h)]
  exact e _ _ (e1 _ _ h)
theorem hide_none {a : Addr} (h : Chg (H a)) (hb : B a = none) : hide B H H1 a = none := by
  unfold hide
  rw [if_pos ⟨h, hb⟩]
theorem hide_at {a : Addr} (h : ¬ Chg (H a)) : hide B H H1 a = H1 a := by
  unfold hide
  rw [if_neg fun z => h z.1]
theorem hide_keep (e : Same H H1) : Keep H1 (hide B H H1) := ⟨fun a xs h => by
  rw [hide_at ?_]
  · exact h
  · intro c
    cases q : H a with
    | none => rw [q] at c; exact c
    | some o =>
      have h2 := e a o q
      rw [h] at h2
      cases h2
      rw [q] at c
      exact c⟩
theorem StOk.hide (S : StOk K H0 B H σ env) (e : Same H H1) : StOk K H0 (hide B H H1) H1 σ env := by
  have b1 := hide_base (B := B) S.e1 e
  refine ⟨S.e0.trans b1, hide_same e, S.len, fun i s hi => ?_, S.sep⟩
  obtain ⟨v, h1, h2⟩ := S.sl i s hi
  refine ⟨v, h1, ?_⟩
  cases s with
  | d x =>
    rcases h2 with h | h
    · exact .inl (h.mono b1)
    · exact .inr ⟨h.1, h.2.mono e⟩
  | l ds => obtain ⟨l, vs, h3, h0, h4, h5, h6⟩ := h2; exact ⟨l, vs, h3, hide_none (by rw [h4]; exact trivial) h0, e _ _ h4, h5.mono e, h6⟩
  | m kvs => obtain ⟨l, kv, h3, h0, h4, h5, h6⟩ := h2; exact ⟨l, kv, h3, hide_none (by rw [h4]; exact trivial) h0, e _ _ h4, h5.mono e, h6⟩
  | k l kvs => obtain ⟨kv, h3, ⟨o, h4⟩, h5, h6⟩ := h2; exact ⟨kv, h3, ⟨o, b1 _ _ h4⟩, h5.mono e, h6⟩
  | g R => exact R.mono h2 b1
  | o C ds => obtain ⟨a, dx, l, vs, h3, h4, h0, h5, h6, h7⟩ := h2; exact ⟨a, dx, l, vs, h3, b1 _ _ h4, hide_none (by rw [h5]; exact trivial) h0, e _ _ h5, h6.mono e, h7⟩
def noOwn (env : En) : Bool := env.all fun o => match o with
  | some s => !s.own
  | none => true
theorem noOwn_at (h : noOwn env = true) {i : Nat} {s : SV} (hi : env[i]? = some (some s)) : s.own = false := by
  have := List.all_eq_true.mp h (some s) (List.mem_of_getElem? hi)
  simpa using this
/-- no list of its own: all stands still -/
theorem StOk.all (S : StOk K H0 B H σ env) (h : noOwn env = true) (e : Same H H1) : StOk K H0 H1 H1 σ env := by
  refine ⟨S.e0.trans (S.e1.trans e), Same.refl _, S.len, fun i s hi => ?_, fun i j s t v hi hj so => by rw [noOwn_at h hi] at so; cases so⟩
  obtain ⟨v, h1, h2⟩ := S.sl i s hi
  refine ⟨v, h1, ?_⟩
  cases s with
  | d x =>
    rcases h2 with h | h
    · exact .inl (h.mono (S.e1.trans e))
    · exact .inl (h.2.mono e)
  | l ds => exact absurd (noOwn_at h hi) (by simp [SV.own])
  | m ds => exact absurd (noOwn_at h hi) (by simp [SV.own])
  | k l kvs => obtain ⟨kv, h3, ⟨o, h4⟩, h5, h6⟩ := h2; exact ⟨kv, h3, ⟨o, e _ _ (S.e1 _ _ h4)⟩, h5.mono e, h6⟩
  | g R => exact R.mono h2 (S.e1.trans e)
  | o C ds => exact absurd (noOwn_at h hi) (by simp [SV.own])
open Classical in
noncomputable def bare (B H : Hp) (l : Addr) : Hp := fun a => if Chg (H a) ∧ B a = none ∧ a ≠ l then none else H a
/-- an own list is done with: it is data from now on -/
theorem StOk.settle (S : StOk K H0 B H σ env) {i : Nat} {ds : List PyData} (hi : env[i]? = some (some (.l ds))) (no : noObj env = true) : ∃ B', StOk K H0 B' H σ (env.set i (some (.d (.list ds)))) := by
  obtain ⟨v, hv, l, vs, rfl, hB, hl, hd, hf⟩ := S.sl i _ hi
  have b0 : Same (bare B H l) H := fun b o h => by
    unfold bare at h
    split at h
    · cases h
    · exact h
  have b1 : Same B (bare B H l) := fun b o h => by
    unfold bare
    rw [if_neg (fun z => by rw [z.2.1] at h; cases h)]
    exact S.e1 _ _ h
  have bk : Keep H (bare B H l) := ⟨fun a xs h => by
    unfold bare
    rw [if_neg (fun z => by have := z.1; rw [h] at this; exact this)]
    exact h⟩
  have bl : bare B H l l = some (.lst vs) := by
    unfold bare
    rw [if_neg (fun z => z.2.2 rfl)]
    exact hl
  refine ⟨bare B H l, S.e0.trans b1, b0, by rw [List.length_set]; exact S.len, fun j t hj => ?_, fun j k t u w hj hk oj ok wj wk => ?_⟩
  · rcases set_get hj with ⟨rfl, e⟩ | ⟨ne, e⟩
    · cases e
      exact ⟨_, hv, .inl (.lst (.of bl) (dkeeps bk _ _ hf hd))⟩
    · obtain ⟨w, h1, h2⟩ := S.sl j t e
      refine ⟨w, h1, ?_⟩
      have nel : t.own = true → ∀ p, w = .ref p → p ≠ l := fun ot p hp z => by
        subst z
        subst hp
        exact ne (S.sep j i t _ _ e hi ot rfl h1 hv)
      cases t with
      | d x =>
        rcases h2 with h | h
        · exact .inl (h.mono b1)
        · exact .inr h
      | l es => obtain ⟨p, us, h3, h0, h4, h5, h6⟩ := h2; exact ⟨p, us, h3, by unfold bare; rw [if_pos ⟨by rw [h4]; exact trivial, h0, nel rfl p h3⟩], h4, h5, h6⟩
      | m es => obtain ⟨p, us, h3, h0, h4, h5, h6⟩ := h2; exact ⟨p, us, h3, by unfold bare; rw [if_pos ⟨by rw [h4]; exact trivial, h0, nel rfl p h3⟩], h4, h5, h6⟩
      | k p es => obtain ⟨kv, h3, ⟨o, h4⟩, h5, h6⟩ := h2; exact ⟨kv, h3, ⟨o, b1 _ _ h4⟩, h5, h6⟩
      | g R => exact R.mono h2 b1
      | o C ds => exact absurd rfl (noObj_at no e C ds)
  · rcases set_get hj with ⟨rfl, e⟩ | ⟨ne, e⟩
    · cases e
      cases oj
    · rcases set_get hk with ⟨rfl, e'⟩ | ⟨ne', e'⟩
      · cases e'
        cases ok
      · exact S.sep j k t u w e e' oj ok wj wk
end

section
variable {X : Cx} {H0 : Hp} {env : En} {D : Ends} {rest body : List Stmt} {pos : Pos}
def tR (X : Cx) (body : List Stmt) : TS := fun D σ H => ∃ t, PSs X body t ∧ t D σ H
theorem tR_ok : PSs X body (tR X body) := ⟨fun pins s σ H D I ⟨t, h, q⟩ => h.run pins s σ H D I q⟩
/-- from every state that the slots' contents tell, the body runs to D -/
def Run (X : Cx) (H0 : Hp) (env : En) (body : List Stmt) (D : Ends) : Prop := ∀ B σ H, StOk X.K H0 B H σ env → tR X body D σ H
theorem run_cons {st : Stmt} {t : TS} (h : PS X st t) (q : ∀ B σ H, StOk X.K H0 B H σ env → t { D with nx := tR X rest D } σ H) : Run X H0 env (st :: rest) D := fun B σ H S => ⟨_, pss_cons h tR_ok, q B σ H S⟩
theorem run_end (q : ∀ B σ H, StOk X.K H0 B H σ env → D.nx σ H) : Run X H0 env [] D := fun B σ H S => ⟨_, pss_nil, q B σ H S⟩
theorem run_nx (k : Run X H0 env rest D) : Run X H0 env [] { D with nx := tR X rest D } := run_end k
theorem run_le {e' : En} (g : Le e' env) (k : Run X H0 e' body D) : Run X H0 env body D := fun B σ H S => k B σ H (S.le g)
theorem run_env {e' : En} (g : env = e') (k : Run X H0 e' body D) : Run X H0 env body D := g ▸ k
theorem run_settle (i : Nat) {ds : List PyData} (hi : env[i]? = some (some (.l ds))) (k : Run X H0 (env.set i (some (.d (.list ds)))) body D) (no : noObj env = true := by rfl) : Run X H0 env body D := fun B σ H S => let ⟨B', S'⟩ := S.settle hi no; k B' σ H S'
/-- the end of a turn -/
def NX (X : Cx) (Hl : Hp) (e : En) : L2.St → Hp → Prop := fun σ' H' => ∃ B, StOk X.K Hl B H' σ' e
theorem run_turn {e : En} (hD : D.nx = NX X H0 e) (g : Le e env) : Run X H0 env [] D := run_end fun B σ H S => by rw [hD]; exact ⟨B, S.le g⟩
theorem run_setF (i : Nat) {x : Str} {e : Expr} {d : PyData} {pos' : Pos} (hN : X.N.Nodup) (hi : X.N[i]? = some x) (hx : Loc X.env.scope x) (he : Ev X env e d) (hf : fz d = true) (k : Run X H0 (env.set i (some (.d d))) rest D)
    (hs : swapsWith e (some (.Name x pos')) pos.line X.env = pure false := by rfl) (hf' : X.fn x = true ∨ X.env.scope.names.lookup x = some .local := by first | exact .inl rfl | exact .inr rfl) :
    Run X H0 env (.Assign [.Name x pos'] e pos :: rest) D := run_cons (ps_set hN hi hx he hs hf') fun B σ H S => ⟨S.e, fun v H1 s1 d1 => k B _ _ ((S.grow s1).put (s := .d d) (.inr ⟨hf, d1⟩) fun z => by cases z)⟩
theorem run_setB (i : Nat) {x : Str} {e : Expr} {d : PyData} {pos' : Pos} (hN : X.N.Nodup) (hi : X.N[i]? = some x) (hx : Loc X.env.scope x) (he : Ev X env e d) (hf : noOwn env = true) (k : Run X H0 (env.set i (some (.d d))) rest D)
    (hs : swapsWith e (some (.Name x pos')) pos.line X.env = pure false := by rfl) (hf' : X.fn x = true ∨ X.env.scope.names.lookup x = some .local := by first | exact .inl rfl | exact .inr rfl) :
    Run X H0 env (.Assign [.Name x pos'] e pos :: rest) D := run_cons (ps_set hN hi hx he hs hf') fun B σ H S => ⟨S.e, fun v H1 s1 d1 => k H1 _ _ ((S.all hf s1).put (s := .d d) (.inl d1) fun z => by cases z)⟩
theorem run_setL (i : Nat) {x : Str} {e : Expr} {ds : List PyData} {pos' : Pos} (hN : X.N.Nodup) (hi : X.N[i]? = some x) (hx : Loc X.env.scope x) (he : EvL X env e ds) (hf : fzs ds = true) (k : Run X H0 (env.set i (some (.l ds))) rest D)
    (hs : swapsWith e (some (.Name x pos')) pos.line X.env = pure false := by rfl) (hf' : X.fn x = true ∨ X.env.scope.names.lookup x = some .local := by first | exact .inl rfl | exact .inr rfl) :
    Run X H0 env (.Assign [.Name x pos'] e pos :: rest) D := run_cons (ps_set hN hi hx he hs hf') fun B σ H S => ⟨S.e, fun l vs H1 s1 hl h1 d1 => k B _ _ ((S.grow s1).put (s := .l ds) ⟨l, vs, rfl, S.e1.free hl, h1, d1, hf⟩ fun _ j t ne hj ot => own_ne S hl hj ot)⟩
/-- {} whose keys are tuples -/
theorem run_setM (i : Nat) {x : Str} {pos' pos2 : Pos} (hN : X.N.Nodup) (hi : X.N[i]? = some x) (hx : Loc X.env.scope x) (k : Run X H0 (env.set i (some (.m []))) rest D)
    (hs : swapsWith (.Dict [] [] pos2) (some (.Name x pos')) pos.line X.env = pure false := by rfl) (hf' : X.fn x = true ∨ X.env.scope.names.lookup x = some .local := by first | exact .inl rfl | exact .inr rfl) :
    Run X H0 env (.Assign [.Name x pos'] (.Dict [] [] pos2) pos :: rest) D := run_cons (ps_set hN hi hx pe_dnewT hs hf') fun B σ H S l hl =>
  k B _ _ ((S.grow (same_new hl)).put (s := .m []) ⟨l, [], rfl, S.e1.free hl, upd_same, .nil, rfl⟩ fun _ j t ne hj ot => own_ne S hl hj ot)
/-- targets of several names -/
theorem run_un2 (i j : Nat) {x y : Str} {px py pt : Pos} {kt : Nat} {e : Expr} {a b : PyData} (hc : X.calm = true) (hN : X.N.Nodup) (hi : X.N[i]? = some x) (hj : X.N[j]? = some y) (hx : Loc X.env.scope x) (hy : Loc X.env.scope y) (he : Ev X env e (.tuple [a, b])) (hf : fz (.tuple [a, b]) = true)
    (k : Run X H0 ((env.set i (some (.d a))).set j (some (.d b))) rest D)
    (hs : swapsWithSole [.Tuple [.Name x px, .Name y py] kt pt] e pos.line X.env = pure false := by rfl) (hw : swappedStores [.Tuple [.Name x px, .Name y py] kt pt] e X.env = pure none := by rfl)
    (hfx : X.fn x = true ∨ X.env.scope.names.lookup x = some .local := by first | exact .inl rfl | exact .inr rfl) (hfy : X.fn y = true ∨ X.env.scope.names.lookup y = some .local := by first | exact .inl rfl | exact .inr rfl)
    (h1 : (assignEach [.Tuple [.Name x px, .Name y py] kt pt] X.env).map (·.2) = [assign (.Tuple [.Name x px, .Name y py] kt pt) X.env] := by rfl)
    (h2 : (assignEach [.Name x px, .Name y py] X.env).map (·.2) = assign (.Name x px) X.env :: (assignEach [.Name y py] X.env).map (·.2) := by rfl)
    (h3 : (assignEach [.Name y py] X.env).map (·.2) = assign (.Name y py) X.env :: (assignEach [] X.env).map (·.2) := by rfl)
    (hn : (assignEach [.Name x px, .Name y py] X.env).length = 2 := by rfl) (hst : (assignEach [.Name x px, .Name y py] X.env).findIdx? (·.1) = none := by rfl) :
    Run X H0 env (.Assign [.Tuple [.Name x px, .Name y py] kt pt] e pos :: rest) D :=
  run_cons (ps_asg he (pg_tup hc (pgs_cons (pg_name hN hi hx hfx) (pgs_cons (pg_name hN hj hy hfy) pgs_nil h3) h2) hn hst) hs hw h1) fun B σ H S => ⟨S.e, fun v H1 s1 d1 => by
    have hf' : (fz a && (fz b && true)) = true := hf
    simp only [Bool.and_eq_true] at hf'
    cases d1 with
    | tup ha hd =>
      cases hd with
      | cons q1 hd =>
        cases hd with
        | cons q2 hd =>
          cases hd
          exact ⟨_, _, rfl, .of ha, rfl, _, _, rfl, _, _, rfl, rfl, k B _ _ (((S.grow s1).put (s := .d a) (.inr ⟨hf'.1, q1⟩) fun z => by cases z).put (s := .d b) (.inr ⟨hf'.2.1, q2⟩) fun z => by cases z)⟩⟩
theorem run_un3 (i j l : Nat) {x y z : Str} {px py pz pt : Pos} {kt : Nat} {e : Expr} {a b c : PyData} (hc : X.calm = true) (hN : X.N.Nodup) (hi : X.N[i]? = some x) (hj : X.N[j]? = some y) (hl : X.N[l]? = some z) (hx : Loc X.env.scope x) (hy : Loc X.env.scope y) (hz : Loc X.env.scope z) (he : Ev X env e (.tuple [a, b, c])) (hf : fz (.tuple [a, b, c]) = true)
    (k : Run X H0 (((env.set i (some (.d a))).set j (some (.d b))).set l (some (.d c))) rest D)
    (hs : swapsWithSole [.Tuple [.Name x px, .Name y py, .Name z pz] kt pt] e pos.line X.env = pure false := by rfl) (hw : swappedStores [.Tuple [.Name x px, .Name y py, .Name z pz] kt pt] e X.env = pure none := by rfl)
    (hfx : X.fn x = true ∨ X.env.scope.names.lookup x = some .local := by first | exact .inl rfl | exact .inr rfl) (hfy : X.fn y = true ∨ X.env.scope.names.lookup y = some .local := by first | exact .inl rfl | exact .inr rfl) (hfz : X.fn z = true ∨ X.env.scope.names.lookup z = some .local := by first | exact .inl rfl | exact .inr rfl)
    (h1 : (assignEach [.Tuple [.Name x px, .Name y py, .Name z pz] kt pt] X.env).map (·.2) = [assign (.Tuple [.Name x px, .Name y py, .Name z pz] kt pt) X.env] := by rfl)
    (h2 : (assignEach [.Name x px, .Name y py, .Name z pz] X.env).map (·.2) = assign (.Name x px) X.env :: (assignEach [.Name y py, .Name z pz] X.env).map (·.2) := by rfl)
    (h3 : (assignEach [.Name y py, .Name z pz] X.env).map (·.2) = assign (.Name y py) X.env :: (assignEach [.Name z pz] X.env).map (·.2) := by rfl)
    (h4 : (assignEach [.Name z pz] X.env).map (·.2) = assign (.Name z pz) X.env :: (assignEach [] X.env).map (·.2) := by rfl)
    (hn : (assignEach [.Name x px, .Name y py, .Name z pz] X.env).length = 3 := by rfl) (hst : (assignEach [.Name x px, .Name y py, .Name z pz] X.env).findIdx? (·.1) = none := by rfl) :
    Run X H0 env (.Assign [.Tuple [.Name x px, .Name y py, .Name z pz] kt pt] e pos :: rest) D :=
  run_cons (ps_asg he (pg_tup hc (pgs_cons (pg_name hN hi hx hfx) (pgs_cons (pg_name hN hj hy hfy) (pgs_cons (pg_name hN hl hz hfz) pgs_nil h4) h3) h2) hn hst) hs hw h1) fun B σ H S => ⟨S.e, fun v H1 s1 d1 => by
    have hf' : (fz a && (fz b && (fz c && true))) = true := hf
    simp only [Bool.and_eq_true] at hf'
    cases d1 with
    | tup ha hd =>
      cases hd with
      | cons q1 hd =>
        cases hd with
        | cons q2 hd =>
          cases hd with
          | cons q3 hd =>
            cases hd
            exact ⟨_, _, rfl, .of ha, rfl, _, _, rfl, _, _, rfl, _, _, rfl, rfl, k B _ _ ((((S.grow s1).put (s := .d a) (.inr ⟨hf'.1, q1⟩) fun z => by cases z).put (s := .d b) (.inr ⟨hf'.2.1, q2⟩) fun z => by cases z).put (s := .d c) (.inr ⟨hf'.2.2.1, q3⟩) fun z => by cases z)⟩⟩
theorem run_if {c : Expr} {a b : List Stmt} {z : Bool} (hc : EvT X env c z) (h1 : z = true → Run X H0 env a { D with nx := tR X rest D }) (h2 : z = false → Run X H0 env b { D with nx := tR X rest D }) : Run X H0 env (.If c a b pos :: rest) D := by
  refine run_cons (ps_if hc (tR_ok (X := X) (body := a)) (tR_ok (X := X) (body := b))) fun B σ H S => ⟨S.e, fun H1 s1 => ?_⟩
  cases z with
  | true => exact iteT (h1 rfl B σ H1 (S.grow s1))
  | false => exact iteF (h2 rfl B σ H1 (S.grow s1))
/-- a test that is known -/
theorem run_ifF {c : Expr} {a b : List Stmt} (hc : EvT X env c false) (h2 : Run X H0 env b { D with nx := tR X rest D }) : Run X H0 env (.If c a b pos :: rest) D := run_if hc (fun z => by cases z) fun _ => h2
theorem run_ifF0 {c : Expr} {a : List Stmt} (hc : EvT X env c false) (h2 : Run X H0 env rest D) : Run X H0 env (.If c a [] pos :: rest) D := run_ifF hc (run_nx h2)
theorem run_ifT {c : Expr} {a b : List Stmt} (hc : EvT X env c true) (h2 : Run X H0 env a { D with nx := tR X rest D }) : Run X H0 env (.If c a b pos :: rest) D := run_if hc (fun _ => h2) fun z => by cases z
/-- what is wanted of what is handed back -/
def RtD (K : PySem.W.Frag) (H0 : Hp) (D : Ends) (r : PyData) : Prop := ∀ v H', Same H0 H' → Rp K H' v r → D.rt v H'
def RtL (K : PySem.W.Frag) (H0 : Hp) (D : Ends) (rs : List PyData) : Prop := ∀ l vs H', Same H0 H' → H0 l = none → H' l = some (.lst vs) → RpAll K H' vs rs → D.rt (.ref l) H'
theorem RtD.mono {K : PySem.W.Frag} {r : PyData} {H1 : Hp} (h : RtD K H0 D r) (e : Same H0 H1) : RtD K H1 D r := fun v H' s => h v H' (e.trans s)
theorem RtL.mono {K : PySem.W.Frag} {r : List PyData} {H1 : Hp} (h : RtL K H0 D r) (e : Same H0 H1) : RtL K H1 D r := fun l vs H' s hl => h l vs H' (e.trans s) (e.free hl)
theorem RtD.l {K : PySem.W.Frag} {r : List PyData} (h : RtD K H0 D (.list r)) : RtL K H0 D r := fun l vs H' s _ hl hd => h _ H' s (.lst (.of hl) hd)
theorem RtD.rt {K : PySem.W.Frag} {r : PyData} {N : L2.St → Hp → Prop} (h : RtD K H0 D r) : RtD K H0 { D with nx := N } r := h
theorem run_ret {e : Expr} {d : PyData} (he : Ev X env e d) (h : RtD X.K H0 D d) : Run X H0 env (.Return (some e) pos :: rest) D := run_cons (ps_ret he) fun B σ H S => ⟨S.e, fun v H1 s1 d1 => h v H1 (S.e0.trans (S.e1.trans s1)) d1⟩
theorem run_retL {e : Expr} {ds : List PyData} (he : EvL X env e ds) (h : RtL X.K H0 D ds) : Run X H0 env (.Return (some e) pos :: rest) D := run_cons (ps_ret he) fun B σ H S => ⟨S.e, fun l vs H1 s1 hl h1 d1 => h l vs H1 (S.e0.trans (S.e1.trans s1)) ((S.e0.trans S.e1).free hl) h1 d1⟩
/-- an own list is handed back -/
theorem run_retN (i : Nat) {x : Str} {ds : List PyData} {px : Pos} (hN : X.N[i]? = some x) (hv : Vis X.env.scope x) (hi : env[i]? = some (some (.l ds))) (h : RtL X.K H0 D ds) (hd : (x == ("__debug__" : Str)) = false := by decide) (hcd : (x == ("__classdict__" : Str)) = false := by decide) :
    Run X H0 env (.Return (some (.Name x px)) pos :: rest) D := run_cons (ps_ret (pe_var hN hv hd hcd)) fun B σ H S => by
  obtain ⟨v, hv, l, vs, rfl, hB, hl, hd, hf⟩ := S.sl i _ hi
  exact ⟨_, hv, h l vs H (S.e0.trans S.e1) (S.e0.free hB) hl hd⟩
theorem run_retn (h : RtD X.K H0 D .none) : Run X H0 env (.Return none pos :: rest) D := run_cons ps_retN fun B σ H S => h _ H (S.e0.trans S.e1) .non
theorem run_expr {e : Expr} {d : PyData} (he : Ev X env e d) (k : Run X H0 env rest D) (hs : swapsWith e none pos.line X.env = pure false := by rfl) : Run X H0 env (.Expr e pos :: rest) D := run_cons (ps_expr he hs) fun B σ H S => ⟨S.e, fun v H1 s1 _ => k B σ H1 (S.grow s1)⟩
/-- a way that can't be -/
theorem run_no {st : Stmt} (h : False) : Run X H0 env (st :: rest) D := h.elim

/-! an own list's methods -/
theorem run_append (i : Nat) {x : Str} {e : Expr} {d : PyData} {ds : List PyData} {p apos cpos : Pos} (hN : X.N[i]? = some x) (hv : Vis X.env.scope x) (hi : env[i]? = some (some (.l ds))) (he : Ev X env e d) (hf : fz d = true) (hz : ds.length ≤ 1000000) (k : Run X H0 (env.set i (some (.l (ds ++ [d])))) rest D)
    (hd : (x == ("__debug__" : Str)) = false := by decide) (hcd : (x == ("__classdict__" : Str)) = false := by decide)
    (hs : swapsWith (.Call (.Attribute (.Name x p) "append" apos) [e] [] cpos) none pos.line X.env = pure false := by rfl)
    (hse : starEach [e] X.env = (false, eval e X.env) :: starEach [] X.env := by rfl)
    (hbase : attributeBase (.Name x p) "append" X.env (eval (.Name x p) X.env) = eval (.Name x p) X.env := by rfl)
    (hfew : ((backTo cpos (starEach [e] X.env)).all (fun x => !x.1) && (backToKw cpos (keywordEach [] X.env)).all (fun x => x.1.isSome)
      && decide ([e].length + ([] : List Keyword).length + (if ([] : List Keyword).isEmpty then 0 else 1) < 30)) = true := by rfl)
    (hline : (apos.endLine == cpos.line) = true := by rfl) (hplain : (backTo cpos (starEach [] X.env)).any (·.1) = false := by rfl) (no : noObj env = true := by rfl) :
    Run X H0 env (.Expr (.Call (.Attribute (.Name x p) "append" apos) [e] [] cpos) pos :: rest) D :=
  run_cons (ps_expr (pe_bm PySem.F.plainAttrs_list PySem.F.slot_list_append PySem.F.type_list_append mt_append (pe_var hN hv hd hcd) (pa_cons he pa_nil hse) hbase hfew hline hse hplain) hs) fun B σ H S => by
    obtain ⟨v, hv, l, vs, rfl, hB, hl, hd, hfs⟩ := S.sl i _ hi
    refine ⟨_, hv, .inl ⟨rfl, _, .of hl⟩, S.e, fun w H1 s1 d1 => ⟨l, vs, w, rfl, rfl, s1 _ _ hl, ?_, k B σ _ ?_⟩⟩
    · rw [RpAll.len hd]
      exact Nat.lt_of_le_of_lt hz (by decide)
    · have S1 := S.grow s1
      have kp : Keep H1 (upd H1 l (.lst (vs ++ [w]))) := keep_upd (s1 _ _ hl) (fun xs z => by cases z)
      exact S1.chg hi rfl hv hB (s1 _ _ hl) (fun xs z => by cases z) ⟨l, _, rfl, hB, upd_same, .append (dkeeps kp _ _ hfs (hd.mono s1)) (.cons (dkeep kp _ _ hf d1) .nil), by rw [fzs_append]; simp [hfs, fzs, hf]⟩ no
theorem run_pop (i : Nat) {x : Str} {ds : List PyData} {p apos cpos : Pos} (hN : X.N[i]? = some x) (hv : Vis X.env.scope x) (hi : env[i]? = some (some (.l ds))) (hz : ds ≠ []) (k : Run X H0 (env.set i (some (.l ds.dropLast))) rest D)
    (hd : (x == ("__debug__" : Str)) = false := by decide) (hcd : (x == ("__classdict__" : Str)) = false := by decide)
    (hs : swapsWith (.Call (.Attribute (.Name x p) "pop" apos) [] [] cpos) none pos.line X.env = pure false := by rfl)
    (hbase : attributeBase (.Name x p) "pop" X.env (eval (.Name x p) X.env) = eval (.Name x p) X.env := by rfl)
    (hline : (apos.endLine == cpos.line) = true := by rfl) (no : noObj env = true := by rfl) :
    Run X H0 env (.Expr (.Call (.Attribute (.Name x p) "pop" apos) [] [] cpos) pos :: rest) D :=
  run_cons (ps_expr (pe_bm0 PySem.F.plainAttrs_list PySem.F.slot_list_pop PySem.F.type_list_pop mt_pop (pe_var hN hv hd hcd) hbase hline) hs) fun B σ H S => by
    obtain ⟨v, hv, l, vs, rfl, hB, hl, hd, hfs⟩ := S.sl i _ hi
    have hn : ds.length ≠ 0 := fun z => hz (List.eq_nil_of_length_eq_zero z)
    have hvl := RpAll.len hd
    have hlt : vs.length - 1 < vs.length := by omega
    refine ⟨_, hv, .inl ⟨rfl, _, .of hl⟩, l, vs, vs[vs.length - 1], rfl, rfl, hl, List.getElem?_eq_getElem hlt, k B σ _ ?_⟩
    have kp : Keep H (upd H l (.lst vs.dropLast)) := keep_upd hl (fun xs z => by cases z)
    exact S.chg hi rfl hv hB hl (fun xs z => by cases z) ⟨l, _, rfl, hB, upd_same, .dropLast (dkeeps kp _ _ hfs hd), fzs_of fun d m => fzs_mem hfs (by rw [List.dropLast_eq_take] at m; exact List.mem_of_mem_take m)⟩ no
end
end Sw

namespace Sw
open PySem PySem.Spec PyProof.Rows L2

/-! ### targets -/
section
variable {K : PySem.W.Frag}
/-- what a target does to the slots, given the data -/
def GS (K : PySem.W.Frag) (g : TG) (f : PyData → En → En) (ok : PyData → Prop) : Prop := ∀ (H0 B : Hp) (σ : L2.St) (H : Hp) (v : V) (d : PyData) (env : En) (Q : L2.St → Hp → Prop), StOk K H0 B H σ env → Rp K H v d → fz d = true → ok d → (∀ σ', StOk K H0 B H σ' (f d env) → Q σ' H) → g v σ H Q
def GE (K : PySem.W.Frag) (vs : List Nat) (g : TG) (f : PyData → En → En) (ok : PyData → Prop) : Prop := ∀ (σ : L2.St) (H : Hp) (v : V) (d : PyData) (env : En) (Q : L2.St → Hp → Prop), σ.length = env.length → EnvE K H σ env → Rp K H v d → ok d → (∀ σ', σ'.length = σ.length → EnvE K H σ' (f d env) → wipe σ' vs = wipe σ vs → Q σ' H) → g v σ H Q
def fN (i : Nat) : PyData → En → En := fun d env => env.set i (some (.d d))
def okN : PyData → Prop := fun _ => True
def fT (f1 f2 : PyData → En → En) : PyData → En → En := fun d env => match d with
  | .tuple [a, b] => f2 b (f1 a env)
  | _ => env
def okT (o1 o2 : PyData → Prop) : PyData → Prop := fun d => ∃ a b, d = .tuple [a, b] ∧ o1 a ∧ o2 b
theorem gs_name (i : Nat) : GS K (gName i) (fN i) okN := fun H0 B σ H v d env Q S r hf _ q => q _ (S.put (s := .d d) (.inr ⟨hf, r⟩) fun z => by cases z)
theorem gs_tup2 {g1 g2 : TG} {f1 f2 : PyData → En → En} {o1 o2 : PyData → Prop} (h1 : GS K g1 f1 o1) (h2 : GS K g2 f2 o2) : GS K (gTup K 2 (gCons g1 (gCons g2 gNil))) (fT f1 f2) (okT o1 o2) := by
  intro H0 B σ H v d env Q S r hf hok q
  obtain ⟨a, b, rfl, oa, ob⟩ := hok
  have hf' : (fz a && (fz b && true)) = true := hf
  simp only [Bool.and_eq_true] at hf'
  cases r with
  | tup ha hd =>
    cases hd with
    | cons q1 hd =>
      cases hd with
      | cons q2 hd =>
        cases hd
        exact ⟨_, _, rfl, .of ha, rfl, _, _, rfl, h1 H0 B σ H _ a env _ S q1 hf'.1 oa fun σ1 S1 => ⟨_, _, rfl, h2 H0 B σ1 H _ b _ _ S1 q2 hf'.2.1 ob fun σ2 S2 => ⟨rfl, q σ2 S2⟩⟩⟩
theorem wipe_set {σ : L2.St} {j : Nat} {o : Option V} : ∀ {vs : List Nat}, j ∈ vs → wipe (σ.set j o) vs = wipe σ vs
  | v :: vs, h => by
    show (wipe (σ.set j o) vs).set v none = (wipe σ vs).set v none
    by_cases e : j ∈ vs
    · rw [wipe_set e]
    · have e2 : j = v := by
        rcases List.mem_cons.mp h with r | r
        · exact r
        · exact absurd r e
      subst e2
      have : ∀ ws : List Nat, j ∉ ws → wipe (σ.set j o) ws = (wipe σ ws).set j o := by
        intro ws
        induction ws with
        | nil => intro _; rfl
        | cons w ws ih =>
          intro hw
          simp only [List.mem_cons, not_or] at hw
          show (wipe (σ.set j o) ws).set w none = ((wipe σ ws).set w none).set j o
          rw [ih hw.2, List.set_comm _ _ hw.1]
      rw [this vs e, List.set_set]
theorem EnvE.put {K : PySem.W.Frag} {H : Hp} {σ : L2.St} {env : En} (hl : σ.length = env.length) (h : EnvE K H σ env) {i : Nat} {v : V} {s : SV} (hv : SvE K H v s) : EnvE K H (σ.set i (some v)) (env.set i (some s)) := fun j t hj => by
  rcases set_get hj with ⟨rfl, e⟩ | ⟨ne, e⟩
  · cases e
    have hlt : j < (env.set j (some s)).length := (List.getElem?_eq_some_iff.mp hj).1
    rw [List.length_set, ← hl] at hlt
    exact ⟨v, List.getElem?_set_self hlt, hv⟩
  · obtain ⟨w, h1, h2⟩ := h j t e
    exact ⟨w, by rw [List.getElem?_set_ne (fun z => ne z.symm)]; exact h1, h2⟩
theorem ge_name {vs : List Nat} (i : Nat) (hi : i ∈ vs) : GE K vs (gName i) (fN i) okN := fun σ H v d env Q hl he r _ q => q _ (by rw [List.length_set]) (he.put hl (s := .d d) r) (wipe_set hi)
theorem ge_tup2 {vs : List Nat} {g1 g2 : TG} {f1 f2 : PyData → En → En} {o1 o2 : PyData → Prop} (h1 : GE K vs g1 f1 o1) (h2 : GE K vs g2 f2 o2) (hl1 : ∀ d e, (f1 d e).length = e.length) : GE K vs (gTup K 2 (gCons g1 (gCons g2 gNil))) (fT f1 f2) (okT o1 o2) := by
  intro σ H v d env Q hl he r hok q
  obtain ⟨a, b, rfl, oa, ob⟩ := hok
  cases r with
  | tup ha hd =>
    cases hd with
    | cons q1 hd =>
      cases hd with
      | cons q2 hd =>
        cases hd
        exact ⟨_, _, rfl, .of ha, rfl, _, _, rfl, h1 σ H _ a env _ hl he q1 oa fun σ1 l1 e1 w1 => ⟨_, _, rfl, h2 σ1 H _ b _ _ (by rw [l1, hl, hl1]) e1 q2 ob fun σ2 l2 e2 w2 => ⟨rfl, q σ2 (l2.trans l1) e2 (w2.trans w1)⟩⟩⟩
end

/-! ### what loops walk -/
def ItS (X : Cx) (H0 : Hp) (env : En) (tg iter : Expr) (n : Nat) (item : Nat → PyData) : Prop := ∃ wi, PI X tg iter wi ∧ ∀ B σ H R, StOk X.K H0 B H σ env →
  (∀ J H1 Bi G Yv, Same H H1 → StOk X.K H0 Bi H1 σ env → Walk J n G Yv → (∀ H', Same Bi H' → G H') → (∀ i H' x H'', i < n → Same Bi H' → Yv i H' x H'' → Same H' H'' ∧ Rp X.K H'' x (item i)) → R J H1) → wi σ H R
def ItE (X : Cx) (env : En) (tg iter : Expr) (n : Nat) (item : Nat → PyData) : Prop := ∃ wi, PI X tg iter wi ∧ ∀ σ H R, EnvE X.K H σ env →
  (∀ J H1 G Yv, Same H H1 → Walk J n G Yv → (∀ H', Same H1 H' → G H') → (∀ i H' x H'', i < n → Same H1 H' → Yv i H' x H'' → Same H' H'' ∧ Rp X.K H'' x (item i)) → R J H1) → wi σ H R
section
variable {X : Cx} {H0 : Hp} {env : En} {D : Ends} {rest body : List Stmt} {pos : Pos}
theorem tR_mono {D1 D2 : Ends} {σ : L2.St} {H : Hp} (h : tR X body D1 σ H) (h1 : ∀ σ H, D1.nx σ H → D2.nx σ H) (h2 : ∀ v H, D1.rt v H → D2.rt v H) (h3 : ∀ σ H, D1.bk σ H → D2.bk σ H) (h4 : ∀ σ H, D1.ct σ H → D2.ct σ H) : tR X body D2 σ H := by
  obtain ⟨t, ht, q⟩ := h
  refine ⟨fun D' σ4 H4 => (∀ σ5 H5, D1.nx σ5 H5 → D'.nx σ5 H5) ∧ (∀ v H5, D1.rt v H5 → D'.rt v H5) ∧ (∀ σ5 H5, D1.bk σ5 H5 → D'.bk σ5 H5) ∧ (∀ σ5 H5, D1.ct σ5 H5 → D'.ct σ5 H5) ∧ t D1 σ4 H4, ⟨fun pins s σ4 H4 D' I ⟨k1, k2, k3, k4, k5⟩ => ?_⟩, ⟨h1, h2, h3, h4, q⟩⟩
  refine thn (ht.run pins s σ4 H4 _ I k5) fun fl s5 w => ?_
  cases fl with
  | next => obtain ⟨σ5, H5, I5, q5⟩ := w; exact ⟨σ5, H5, I5, k1 _ _ q5⟩
  | brk => obtain ⟨σ5, H5, I5, q5⟩ := w; exact ⟨σ5, H5, I5, k3 _ _ q5⟩
  | cont => obtain ⟨σ5, H5, I5, q5⟩ := w; exact ⟨σ5, H5, I5, k4 _ _ q5⟩
  | ret u => obtain ⟨v, σ5, H5, I5, r5, q5⟩ := w; exact ⟨v, σ5, H5, I5, r5, k2 _ _ q5⟩
theorem run_for {tg iter : Expr} {n : Nat} {item : Nat → PyData} {g : TG} {f : PyData → En → En} {ok : PyData → Prop} (E : Nat → En) (hp : PassesOwn (model X.prog X.w) X.A X.env X.xe) (hc : X.calm = true) (hI : ItS X H0 env tg iter n item) (hg : PG X tg g) (hs : GS X.K g f ok)
    (h0 : Le (E 0) env) (hit : ∀ i, i < n → fz (item i) = true ∧ ok (item i))
    (turn : ∀ (i : Nat) (Hl : Hp) (D' : Ends), i < n → Same H0 Hl → D'.nx = NX X Hl (E (i + 1)) → D'.rt = D.rt → Run X Hl (f (item i) (E i)) body D')
    (done : Run X H0 (E n) rest D) (hfo : ∀ x, foldedSetIterable iter X.env x = pure x := by intro _; rfl) : Run X H0 env (.For tg iter body [] pos :: rest) D := by
  obtain ⟨wi, hi, hw⟩ := hI
  refine run_cons (ps_for hp hc hi hg (tR_ok (X := X) (body := body)) hfo) fun B σ H S => ?_
  refine hw B σ H _ S fun J H1 Bi G Yv s1 S1 W hG hY => ?_
  refine for_it W (fun i σ' H' => ∃ B', Same Bi B' ∧ StOk X.K H0 B' H' σ' (E i)) ⟨Bi, Same.refl _, S1.le h0⟩ (fun i σ' H' _ ⟨B', b, S'⟩ => hG H' (b.trans S'.e1)) ?_ ?_
  · rintro i x σ' H' H'' hlt ⟨B', b, S'⟩ hy
    obtain ⟨s2, r⟩ := hY i H' x H'' hlt (b.trans S'.e1) hy
    have S2 : StOk X.K B' B' H'' σ' (E i) := ⟨Same.refl _, (S'.grow s2).e1, (S'.grow s2).len, (S'.grow s2).sl, (S'.grow s2).sep⟩
    refine hs B' B' σ' H'' x (item i) (E i) _ S2 r (hit i hlt).1 (hit i hlt).2 fun σ3 S3 => ?_
    have T := turn i B' { D with nx := NX X B' (E (i + 1)), ct := NX X B' (E (i + 1)), bk := fun _ _ => False } hlt S'.e0 rfl rfl B' σ3 H'' S3
    have g : ∀ σ5 H5, NX X B' (E (i + 1)) σ5 H5 → ∃ B', Same Bi B' ∧ StOk X.K H0 B' H5 σ5 (E (i + 1)) := fun σ5 H5 ⟨B5, S5⟩ => ⟨B5, b.trans S5.e0, ⟨S'.e0.trans S5.e0, S5.e1, S5.len, S5.sl, S5.sep⟩⟩
    exact tR_mono T g (fun _ _ z => z) (fun _ _ z => z.elim) g
  · rintro σ' H' ⟨B', b, S'⟩
    exact done B' σ' H' S'

/-! the things walked -/
theorem sign_at {l : List Nat} {i c : Nat} (hc : (SX.S l).cps[i]? = some c) : l.getD i 0 = c := by
  have : l[i]? = some c := by simpa using hc
  rw [List.getD_eq_getElem?_getD, this]
  rfl
theorem rp_sign {K : PySem.W.Frag} {H : Hp} {l : List Nat} {i c : Nat} (hc : (SX.S l).cps[i]? = some c) : Rp K H (.str ⟨#[c]⟩) (.str (SX.S [l.getD i 0])) := by
  rw [sign_at hc]
  exact .str _
theorem walk_S {l : List Nat} : Walk (Its (SX.S l)) l.length (fun _ => True) (fun i H v H' => H' = H ∧ ∃ c, (SX.S l).cps[i]? = some c ∧ v = .str ⟨#[c]⟩) := by
  have := walk_str (z := SX.S l)
  simpa using this
theorem its_str {tg e : Expr} {l : List Nat} (he : Ev X env e (.str (SX.S l))) : ItS X H0 env tg e l.length (fun i => .str (SX.S [l.getD i 0])) := ⟨_, pi_str he, fun B σ H R S q => ⟨S.e, fun v H1 s1 d1 => by
  cases d1
  refine ⟨_, rfl, q _ H1 B _ _ s1 (S.grow s1) walk_S (fun _ _ => trivial) fun i H' x H'' hi sB hy => ?_⟩
  obtain ⟨rfl, c, hc, rfl⟩ := hy
  exact ⟨Same.refl _, rp_sign hc⟩⟩⟩
theorem ite_str {tg e : Expr} {l : List Nat} (he : Ev X env e (.str (SX.S l))) : ItE X env tg e l.length (fun i => .str (SX.S [l.getD i 0])) := ⟨_, pi_str he, fun σ H R S q => ⟨S, fun v H1 s1 d1 => by
  cases d1
  refine ⟨_, rfl, q _ H1 _ _ s1 walk_S (fun _ _ => trivial) fun i H' x H'' hi sB hy => ?_⟩
  obtain ⟨rfl, c, hc, rfl⟩ := hy
  exact ⟨Same.refl _, rp_sign hc⟩⟩⟩
theorem getD_at {ds : List PyData} {i : Nat} {d : PyData} (h : ds[i]? = some d) : ds.getD i .none = d := by
  rw [List.getD_eq_getElem?_getD, h]
  rfl
/-- a list made for the loop -/
theorem its_new {tg e : Expr} {ds : List PyData} (he : EvL X env e ds) (hf : fzs ds = true) : ItS X H0 env tg e ds.length (fun i => ds.getD i .none) := ⟨_, pi_list he, fun B σ H R S q => ⟨S.e, fun l vs H1 s1 hl h1 d1 => by
  have hb : hide B H H1 l = some (.lst vs) := by
    rw [hide_at (by rw [hl]; exact id)]
    exact h1
  refine ⟨l, rfl, ⟨vs, .of h1⟩, q _ H1 (hide B H H1) _ _ s1 (S.hide s1) (by rw [← RpAll.len d1]; exact walk_list (K := X.K) (a := l) (xs := vs)) (fun H' s => SqL.of (K := X.K) (s _ _ hb)) fun i H' x H'' hi sB hy => ?_⟩
  obtain ⟨rfl, hx⟩ := hy
  obtain ⟨d, hd, r⟩ := RpAll.get' (dkeeps (hide_keep s1) _ _ hf d1) hx
  refine ⟨Same.refl _, ?_⟩
  show Rp _ _ _ (ds.getD i .none)
  rw [getD_at hd]
  exact r.mono sB⟩⟩
theorem ite_list {tg e : Expr} {ds : List PyData} (he : Ev X env e (.list ds)) : ItE X env tg e ds.length (fun i => ds.getD i .none) := ⟨_, pi_list he, fun σ H R S q => ⟨S, fun v H1 s1 d1 => by
  cases d1 with
  | lst hs ha =>
    rename_i l vs
    refine ⟨l, rfl, ⟨vs, hs⟩, q _ H1 _ _ s1 (by rw [← RpAll.len ha]; exact walk_list (K := X.K) (a := l) (xs := vs)) (fun H' s => s.seq hs) fun i H' x H'' hi sB hy => ?_⟩
    obtain ⟨rfl, hx⟩ := hy
    obtain ⟨d, hd, r⟩ := RpAll.get' ha hx
    refine ⟨Same.refl _, ?_⟩
    show Rp _ _ _ (ds.getD i .none)
    rw [getD_at hd]
    exact r.mono sB⟩⟩
/-- a slot's data list -/
theorem its_slot (j : Nat) {x : Str} {tg : Expr} {px : Pos} {ds : List PyData} (hN : X.N[j]? = some x) (hv : Vis X.env.scope x) (hj : env[j]? = some (some (.d (.list ds)))) (hb : (x == ("__debug__" : Str)) = false := by decide) (hcd : (x == ("__classdict__" : Str)) = false := by decide) :
    ItS X H0 env tg (.Name x px) ds.length (fun i => ds.getD i .none) := ⟨_, pi_list (pe_var hN hv hb hcd), fun B σ H R S q => by
  obtain ⟨v, h1, h2⟩ := S.sl j _ hj
  have h2 : Rp X.K B v (.list ds) := by
    rcases h2 with h | h
    · exact h
    · exact absurd h.1 (by simp [fz])
  cases h2 with
  | lst hs ha =>
    rename_i l vs
    refine ⟨_, h1, l, rfl, ⟨vs, S.e1.seq hs⟩, q _ H B _ _ (Same.refl _) S (by rw [← RpAll.len ha]; exact walk_list (K := X.K) (a := l) (xs := vs)) (fun H' s => s.seq hs) fun i H' x H'' hi sB hy => ?_⟩
    obtain ⟨rfl, hx⟩ := hy
    obtain ⟨d, hd, r⟩ := RpAll.get' ha hx
    refine ⟨Same.refl _, ?_⟩
    show Rp _ _ _ (ds.getD i .none)
    rw [getD_at hd]
    exact r.mono sB⟩
theorem its_range1 {tg e : Expr} {p pos : Pos} {n : Int} (hg : Gl X "range") (hm : X.mg "range" = none) (he : Ev X env e (.int n)) (h : n ≤ 1000000000) (h' : -1000000000 ≤ n := by omega) (hs : starEach [e] X.env = [(false, eval e X.env)] := by rfl) :
    ItS X H0 env tg (.Call (.Name "range" p) [e] [] pos) n.toNat (fun i => .int (i : Int)) := ⟨_, pi_range1 hg hm (ea_cons he ea_nil hs) hs, fun B σ H R S q => ⟨S.e, fun vs H1 s1 d1 => by
  cases d1 with
  | cons a b =>
    cases b
    cases a
    refine ⟨n, rfl, by omega, by omega, q _ H1 B _ _ s1 (S.grow s1) walk_range (fun _ _ => trivial) fun i H' x H'' hi sB hy => ?_⟩
    obtain ⟨rfl, rfl⟩ := hy
    refine ⟨Same.refl _, ?_⟩
    show Rp _ _ (V.int (0 + (i : Int))) (PyData.int (i : Int))
    rw [Int.zero_add]
    exact .int _⟩⟩
theorem its_range2 {tg e e2 : Expr} {p pos : Pos} {m n : Int} (hg : Gl X "range") (hm : X.mg "range" = none) (he : Ev X env e (.int m)) (he2 : Ev X env e2 (.int n)) (h : -1000000000 ≤ m ∧ m ≤ 1000000000 ∧ -1000000000 ≤ n ∧ n ≤ 1000000000)
    (hs : starEach [e, e2] X.env = [(false, eval e X.env), (false, eval e2 X.env)] := by rfl) (hs2 : starEach [e2] X.env = [(false, eval e2 X.env)] := by rfl) :
    ItS X H0 env tg (.Call (.Name "range" p) [e, e2] [] pos) (n - m).toNat (fun i => .int (m + (i : Int))) := ⟨_, pi_range2 hg hm (ea_cons he (ea_cons he2 ea_nil hs2) (hs.trans (by rw [hs2]))) hs hs2, fun B σ H R S q => ⟨S.e, fun vs H1 s1 d1 => by
  cases d1 with
  | cons a b =>
    cases b with
    | cons b c =>
      cases c
      cases a
      cases b
      refine ⟨m, n, rfl, by omega, q _ H1 B _ _ s1 (S.grow s1) walk_range (fun _ _ => trivial) fun i H' x H'' hi sB hy => ?_⟩
      obtain ⟨rfl, rfl⟩ := hy
      exact ⟨Same.refl _, .int _⟩⟩⟩
theorem ite_range1 {tg e : Expr} {p pos : Pos} {n : Int} (hg : Gl X "range") (hm : X.mg "range" = none) (he : Ev X env e (.int n)) (h : n ≤ 1000000000) (h' : -1000000000 ≤ n := by omega) (hs : starEach [e] X.env = [(false, eval e X.env)] := by rfl) :
    ItE X env tg (.Call (.Name "range" p) [e] [] pos) n.toNat (fun i => .int (i : Int)) := ⟨_, pi_range1 hg hm (ea_cons he ea_nil hs) hs, fun σ H R S q => ⟨S, fun vs H1 s1 d1 => by
  cases d1 with
  | cons a b =>
    cases b
    cases a
    refine ⟨n, rfl, by omega, by omega, q _ H1 _ _ s1 walk_range (fun _ _ => trivial) fun i H' x H'' hi sB hy => ?_⟩
    obtain ⟨rfl, rfl⟩ := hy
    refine ⟨Same.refl _, ?_⟩
    show Rp _ _ (V.int (0 + (i : Int))) (PyData.int (i : Int))
    rw [Int.zero_add]
    exact .int _⟩⟩
theorem ite_range2 {tg e e2 : Expr} {p pos : Pos} {m n : Int} (hg : Gl X "range") (hm : X.mg "range" = none) (he : Ev X env e (.int m)) (he2 : Ev X env e2 (.int n)) (h : -1000000000 ≤ m ∧ m ≤ 1000000000 ∧ -1000000000 ≤ n ∧ n ≤ 1000000000)
    (hs : starEach [e, e2] X.env = [(false, eval e X.env), (false, eval e2 X.env)] := by rfl) (hs2 : starEach [e2] X.env = [(false, eval e2 X.env)] := by rfl) :
    ItE X env tg (.Call (.Name "range" p) [e, e2] [] pos) (n - m).toNat (fun i => .int (m + (i : Int))) := ⟨_, pi_range2 hg hm (ea_cons he (ea_cons he2 ea_nil hs2) (hs.trans (by rw [hs2]))) hs hs2, fun σ H R S q => ⟨S, fun vs H1 s1 d1 => by
  cases d1 with
  | cons a b =>
    cases b with
    | cons b c =>
      cases c
      cases a
      cases b
      refine ⟨m, n, rfl, by omega, q _ H1 _ _ s1 walk_range (fun _ _ => trivial) fun i H' x H'' hi sB hy => ?_⟩
      obtain ⟨rfl, rfl⟩ := hy
      exact ⟨Same.refl _, .int _⟩⟩⟩

/-! ### comprehensions -/
def wipeE (env : En) : List Nat → En
  | [] => env
  | v :: vs => (wipeE env vs).set v none
theorem wipeE_ok {K : PySem.W.Frag} {H : Hp} {σ : L2.St} (h : EnvE K H σ env) : ∀ vs : List Nat, EnvE K H (wipe σ vs) (wipeE env vs)
  | [] => h
  | v :: vs => fun j t hj => by
    rcases set_get hj with ⟨rfl, e⟩ | ⟨ne, e⟩
    · cases e
    · obtain ⟨w, h1, h2⟩ := wipeE_ok h vs j t e
      exact ⟨w, by show ((wipe σ vs).set v none)[j]? = _; rw [List.getElem?_set_ne (fun z => ne z.symm)]; exact h1, h2⟩
theorem wipeE_len : ∀ vs : List Nat, (wipeE env vs).length = env.length
  | [] => rfl
  | v :: vs => by show ((wipeE env vs).set v none).length = _; rw [List.length_set, wipeE_len vs]
theorem filt_yes {n : Nat} {c : Nat → Bool} {v : Nat → PyData} (h : c n = true) : ((List.range (n + 1)).filter c).map v = ((List.range n).filter c).map v ++ [v n] := by
  rw [List.range_succ, List.filter_append, List.map_append, List.filter_cons, if_pos h]
  rfl
theorem filt_no {n : Nat} {c : Nat → Bool} {v : Nat → PyData} (h : c n = false) : ((List.range (n + 1)).filter c).map v = ((List.range n).filter c).map v := by
  rw [List.range_succ, List.filter_append, List.map_append, List.filter_cons, if_neg (by rw [h]; decide)]
  show _ ++ [] = _
  rw [List.append_nil]
theorem filt_len {n : Nat} {c : Nat → Bool} {v : Nat → PyData} : (((List.range n).filter c).map v).length ≤ n := by
  rw [List.length_map]
  have h := List.length_filter_le c (List.range n)
  rw [List.length_range] at h
  exact h
/-- [elt for tg in iter if ..]: c which turns give, v what -/
theorem lc_main {tg iter : Expr} {own : List (Str × Nat)} {n : Nat} {item : Nat → PyData} {g : TG} {f : PyData → En → En} {ok : PyData → Prop} (c : Nat → Bool) (v : Nat → PyData) {tt : TT} {te : TE}
    (hI : ItE X env tg iter n item) (hs : GE X.K (own.map (·.2)) g f ok) (hit : ∀ i, i < n → ok (item i)) (hfz : ∀ i, i < n → c i = true → fz (v i) = true) (hlen : n ≤ 1000000)
    (ht : ∀ i, i < n → ∀ σ H Q, tP X.K (f (item i) (wipeE env (own.map (·.2)))) (c i) σ H Q → tt σ H Q)
    (he : ∀ i, i < n → c i = true → ∀ σ H Q, tD X.K (f (item i) (wipeE env (own.map (·.2)))) (v i) σ H Q → te σ H Q) :
    ∃ wi, PI X tg iter wi ∧ ∀ σ H Q, σ.length = env.length → tL X.K env (((List.range n).filter c).map v) σ H Q → tLc wi g tt te (own.map (·.2)) σ H Q := by
  obtain ⟨wi, hi, hw⟩ := hI
  refine ⟨wi, hi, fun σ H Q hlσ ⟨hE, q⟩ => hw σ H _ hE fun J H1 G Yv s1 W hG hY Dl hD => ?_⟩
  have fzl : ∀ i, i ≤ n → fzs (((List.range i).filter c).map v) = true := fun i hi => fzs_of fun d hd => by
    obtain ⟨j, hj, rfl⟩ := List.mem_map.mp hd
    obtain ⟨hj1, hj2⟩ := List.mem_filter.mp hj
    exact hfz j (Nat.lt_of_lt_of_le (List.mem_range.mp hj1) hi) hj2
  refine lc_it W (fun i H' => Same H1 H' ∧ ∃ us, H' Dl = some (.lst us) ∧ RpAll X.K H' us (((List.range i).filter c).map v)) ⟨same_new hD, [], upd_same, .nil⟩ (fun i H' _ p => hG H' p.1) ?_ ?_
  · rintro i x H' H'' hlt ⟨p1, us, p2, p3⟩ hy
    obtain ⟨s2, r⟩ := hY i H' x H'' hlt p1 hy
    have hE2 : EnvE X.K H'' (wipe σ (own.map (·.2))) (wipeE env (own.map (·.2))) := wipeE_ok (hE.mono (s1.trans (p1.trans s2))) _
    refine hs _ H'' x (item i) _ _ (by rw [wipe_length, wipeE_len, hlσ]) hE2 r (hit i hlt) fun σ2 l2 e2 w2 => ⟨w2.trans ?_, ?_⟩
    · have : ∀ vs : List Nat, wipe (wipe σ vs) vs = wipe σ vs := by
        have com : ∀ (vs : List Nat) (τ : L2.St) (j : Nat), wipe (τ.set j none) vs = (wipe τ vs).set j none := by
          intro vs
          induction vs with
          | nil => intro τ j; rfl
          | cons w ws ih =>
            intro τ j
            show (wipe (τ.set j none) ws).set w none = ((wipe τ ws).set w none).set j none
            rw [ih]
            by_cases e : j = w
            · rw [e]
            · rw [List.set_comm _ _ e]
        intro vs
        induction vs with
        | nil => rfl
        | cons w ws ih =>
          show (wipe ((wipe σ ws).set w none) ws).set w none = (wipe σ ws).set w none
          rw [com, List.set_set, ih]
      exact this _
    · refine ht i hlt σ2 H'' _ ⟨e2, fun H3 s3 => ?_⟩
      cases hc : c i with
      | false =>
        refine iteF ⟨p1.trans (s2.trans s3), us, s3 _ _ (s2 _ _ p2), ?_⟩
        rw [filt_no hc]
        exact p3.mono (s2.trans s3)
      | true =>
        refine iteT (he i hlt hc σ2 H3 _ ⟨e2.mono s3, fun y H4 s4 d4 => ⟨us, s4 _ _ (s3 _ _ (s2 _ _ p2)), ?_, ?_, us ++ [y], upd_same, ?_⟩⟩)
        · rw [RpAll.len p3]
          have := filt_len (n := i) (c := c) (v := v)
          exact Nat.lt_of_le_of_lt (Nat.le_trans this (Nat.le_trans (Nat.le_of_lt hlt) hlen)) (by decide)
        · intro b o e
          rw [upd_ne (ne_of_none e hD)]
          exact s4 _ _ (s3 _ _ (s2 _ _ (p1 _ _ e)))
        · rw [filt_yes hc]
          have hl4 : H4 Dl = some (.lst us) := s4 _ _ (s3 _ _ (s2 _ _ p2))
          have kp : Keep H4 (upd H4 Dl (.lst (us ++ [y]))) := keep_upd hl4 (fun xs z => by cases z)
          exact .append (dkeeps kp _ _ (fzl i (Nat.le_of_lt hlt)) (p3.mono (s2.trans (s3.trans s4)))) (.cons (dkeep kp _ _ (hfz i hlt hc) d4) .nil)
  · rintro H' ⟨p1, us, p2, p3⟩
    exact q Dl us H' (s1.trans p1) (s1.free hD) p2 p3
theorem evl_compF {tg iter elt : Expr} {ifs : List Expr} {scope : Scope} {pos : Pos} {n : Nat} {item : Nat → PyData} {g : TG} {f : PyData → En → En} {ok : PyData → Prop} (own : List (Str × Nat)) (c : Nat → Bool) (v : Nat → PyData) (hc : X.calm = true) (hN : X.N.Nodup) (hok : BlkOk X.N X.env.scope scope own)
    (hI : ItE X env tg iter n item) (hg : ∀ (s : Shared) (H : Hp) (C : Addr) (cl : List (Str × Addr)) (fp : List Addr), PG (X.blk s H scope (compEnvC scope cl C X.env) fp) tg g) (hs : GE X.K (own.map (·.2)) g f ok) (hit : ∀ i, i < n → ok (item i)) (hfz : ∀ i, i < n → c i = true → fz (v i) = true) (hlen : n ≤ 1000000)
    (ht : ∀ (s : Shared) (H : Hp) (C : Addr) (cl : List (Str × Addr)) (fp : List Addr) i, i < n → PTs (X.blk s H scope (compEnvC scope cl C X.env) fp) ifs (tP X.K (f (item i) (wipeE env (own.map (·.2)))) (c i)))
    (he : ∀ (s : Shared) (H : Hp) (C : Addr) (cl : List (Str × Addr)) (fp : List Addr) i, i < n → c i = true → Ev (X.blk s H scope (compEnvC scope cl C X.env) fp) (f (item i) (wipeE env (own.map (·.2)))) elt (v i))
    (hel : X.N.length = env.length := by rfl) (hfo : ∀ x, foldedSetIterable iter X.env x = pure x := by intro _; rfl) :
    EvL X env (.ListComp elt [⟨tg, iter, ifs, 0⟩] scope pos) (((List.range n).filter c).map v) := by
  obtain ⟨wi, hi, hw⟩ := lc_main (tt := fun σ H Q => ∃ i, i < n ∧ tP X.K (f (item i) (wipeE env (own.map (·.2)))) (c i) σ H Q) (te := fun σ H Q => ∃ i, i < n ∧ c i = true ∧ tD X.K (f (item i) (wipeE env (own.map (·.2)))) (v i) σ H Q) c v hI hs hit hfz hlen (fun i hi σ H Q q => ⟨i, hi, q⟩) (fun i hi hci σ H Q q => ⟨i, hi, hci, q⟩)
  refine ⟨fun pins s σ H Q I q => (pe_lc hc hN hi hok hg (fun s H C cl fp => ⟨fun pins s' σ' H' Q' I' ⟨i, hi, q'⟩ => (ht s H C cl fp i hi).run pins s' σ' H' Q' I' q'⟩) (fun s H C cl fp => ⟨fun pins s' σ' H' Q' I' ⟨i, hi, hci, q'⟩ => (he s H C cl fp i hi hci).run pins s' σ' H' Q' I' q'⟩) hfo).run pins s σ H Q I (hw σ H Q (I.len.trans hel) q)⟩
theorem evl_comp {tg iter elt : Expr} {scope : Scope} {pos : Pos} {n : Nat} {item : Nat → PyData} {g : TG} {f : PyData → En → En} {ok : PyData → Prop} (own : List (Str × Nat)) (v : Nat → PyData) (hc : X.calm = true) (hN : X.N.Nodup) (hok : BlkOk X.N X.env.scope scope own)
    (hI : ItE X env tg iter n item) (hg : ∀ (s : Shared) (H : Hp) (C : Addr) (cl : List (Str × Addr)) (fp : List Addr), PG (X.blk s H scope (compEnvC scope cl C X.env) fp) tg g) (hs : GE X.K (own.map (·.2)) g f ok) (hit : ∀ i, i < n → ok (item i)) (hfz : ∀ i, i < n → fz (v i) = true) (hlen : n ≤ 1000000)
    (he : ∀ (s : Shared) (H : Hp) (C : Addr) (cl : List (Str × Addr)) (fp : List Addr) i, i < n → Ev (X.blk s H scope (compEnvC scope cl C X.env) fp) (f (item i) (wipeE env (own.map (·.2)))) elt (v i))
    (hel : X.N.length = env.length := by rfl) (hfo : ∀ x, foldedSetIterable iter X.env x = pure x := by intro _; rfl) :
    EvL X env (.ListComp elt [⟨tg, iter, [], 0⟩] scope pos) ((List.range n).map v) := by
  have h := evl_compF (ifs := []) (pos := pos) own (fun _ => true) v hc hN hok hI hg hs hit (fun i hi _ => hfz i hi) hlen (fun s H C cl fp i hi => ⟨fun pins s' σ' H' Q' I' q' => pts_nil.run pins s' σ' H' Q' I' (q'.2 H' (Same.refl _))⟩) (fun s H C cl fp i hi _ => he s H C cl fp i hi) hel hfo
  rwa [List.filter_eq_self.mpr (fun _ _ => rfl)] at h
end

/-! ### functions -/
section
variable {P : Program} {w : World} {K : PySem.W.Frag} {mg : Str → Option Value} {base : Heap}
def spD (K : PySem.W.Frag) (R : List PyData → PyData → Prop) : Sp := fun vs H Q _ => ∃ ds r, RpAll K H vs ds ∧ R ds r ∧ ∀ v H', Same H H' → Rp K H' v r → Q v H'
def spL (K : PySem.W.Frag) (R : List PyData → List PyData → Prop) : Sp := fun vs H Q _ => ∃ ds rs, RpAll K H vs ds ∧ R ds rs ∧ ∀ l us H', Same H H' → H l = none → H' l = some (.lst us) → RpAll K H' us rs → Q (.ref l) H'
def env0 (n : Nat) (ds : List PyData) : En := ds.map (fun d => some (.d d)) ++ List.replicate (n - ds.length) none
theorem st0 {K : PySem.W.Frag} {H : Hp} {N : List Str} {vs : List V} {ds : List PyData} (h : RpAll K H vs ds) : StOk K H H H (start N vs) (env0 N.length ds) := by
  have hl := RpAll.len h
  have at_ : ∀ (i : Nat) (s : SV), (env0 N.length ds)[i]? = some (some s) → ∃ d, s = .d d ∧ ds[i]? = some d := fun i s hi => by
    unfold env0 at hi
    by_cases hlt : i < ds.length
    · rw [List.getElem?_append_left (by simpa using hlt), List.getElem?_map, List.getElem?_eq_getElem hlt] at hi
      cases hi
      exact ⟨_, rfl, List.getElem?_eq_getElem hlt⟩
    · rw [List.getElem?_append_right (by simpa using hlt), List.getElem?_replicate] at hi
      split at hi
      · cases hi
      · cases hi
  refine ⟨Same.refl _, Same.refl _, ?_, fun i s hi => ?_, fun i j s t v hi hj so => ?_⟩
  · unfold L2.start env0
    simp [hl]
  · obtain ⟨d, rfl, hd⟩ := at_ i s hi
    obtain ⟨v, hv, r⟩ := RpAll.get h hd
    refine ⟨v, ?_, .inl r⟩
    unfold L2.start
    have hlt : i < vs.length := (List.getElem?_eq_some_iff.mp hv).1
    rw [List.getElem?_append_left (by simpa using hlt), List.getElem?_map, hv]
    rfl
  · obtain ⟨d, rfl, _⟩ := at_ i s hi
    cases so
abbrev CxD (P : Program) (w : World) (K : PySem.W.Frag) (mg : Str → Option Value) (base : Heap) (N : List Str) (qual : Str) (st : Stmt) (f : Addr) (cdv : Value) (A : Around) (outer : List Env) (s : Shared) (H : Hp) (E : XK) : Cx := (cxOf CX0 P w K mg base N qual (defScope st) f cdv A outer s H E).nox
theorem fnD {x qual : Str} {st : Stmt} {f : Addr} {fd : FuncData} {N ps : List Str} {k : Nat} {R : List PyData → PyData → Prop} (F : Fun K x qual st f fd) (S : FnScope N ps (defScope st)) (hl : ∀ ds r, R ds r → ds.length = ps.length)
    (body : ∀ (cdv : Value) (A : Around) (outer : List Env) (s : Shared) (H : Hp) (E : XK), Room k (CxD P w K mg base N qual st f cdv A outer s H E).A → ∀ (ds : List PyData) (r : PyData) (D : Ends), R ds r → RtD K H D r → (r = .none → ∀ σ H', Same H H' → D.nx σ H') →
      Run (CxD P w K mg base N qual st f cdv A outer s H E) H (env0 N.length ds) (defBody st) D) : FnOk P w K mg base CX0 (k + 1) f fd ps (spD K R) := by
  refine F.ok S (fun vs H Q E h => ?_) (fun cdv A outer s H vs Q E hr h => ?_)
  · obtain ⟨ds, r, hd, hR, _⟩ := h
    rw [RpAll.len hd, hl ds r hR]
  · obtain ⟨ds, r, hd, hR, q⟩ := h
    exact body cdv A outer s H E hr ds r { nx := fun _ H' => Q .non H', rt := Q } hR q (fun e σ H' s => q .non H' s (by rw [e]; exact .non)) H _ H (st0 hd)
theorem fnL {x qual : Str} {st : Stmt} {f : Addr} {fd : FuncData} {N ps : List Str} {k : Nat} {R : List PyData → List PyData → Prop} (F : Fun K x qual st f fd) (S : FnScope N ps (defScope st)) (hl : ∀ ds r, R ds r → ds.length = ps.length)
    (body : ∀ (cdv : Value) (A : Around) (outer : List Env) (s : Shared) (H : Hp) (E : XK), Room k (CxD P w K mg base N qual st f cdv A outer s H E).A → ∀ (ds : List PyData) (r : List PyData) (D : Ends), R ds r → RtL K H D r →
      Run (CxD P w K mg base N qual st f cdv A outer s H E) H (env0 N.length ds) (defBody st) D) : FnOk P w K mg base CX0 (k + 1) f fd ps (spL K R) := by
  refine F.ok S (fun vs H Q E h => ?_) (fun cdv A outer s H vs Q E hr h => ?_)
  · obtain ⟨ds, r, hd, hR, _⟩ := h
    rw [RpAll.len hd, hl ds r hR]
  · obtain ⟨ds, r, hd, hR, q⟩ := h
    exact body cdv A outer s H E hr ds r { nx := fun _ H' => Q .non H', rt := Q } hR q H _ H (st0 hd)
/-- a def that callers know by its name -/
structure Cd (P : Program) (w : World) (K : PySem.W.Frag) (mg : Str → Option Value) (base : Heap) (k : Nat) (x : Str) (sp : Sp) : Prop where
  ex : ∃ f fd ps, FnOk P w K mg base CX0 k f fd ps sp ∧ mg x = some (.ref f) ∧ PySem.W.keepIn K (.ref f) = true ∧ Binds K fd ps []
end
section
variable {X : Cx} {env : En} {e : Expr} {es : List Expr} {pos p : Pos}
theorem ev_call {x : Str} {k j : Nat} {R : List PyData → PyData → Prop} {ds : List PyData} {r : PyData} (c : Cd X.prog X.w X.K X.mg X.base k x (spD X.K R)) (hr : Room j X.A) (hk : k ≤ j) (hg : Gl X x) (ha : EvA X env (e :: es) ds) (hR : R ds r)
    (hdb : (x == ("__debug__" : Str)) = false := by decide) (he : starEach (e :: es) X.env = (false, eval e X.env) :: starEach es X.env := by rfl) (hpl : (backTo pos (starEach es X.env)).any (·.1) = false := by rfl) :
    Ev X env (.Call (.Name x p) (e :: es) [] pos) r := by
  obtain ⟨f, fd, ps, F, hm, hk', hb⟩ := c.ex
  refine wkE (pe_call F (hr.mono hk) hg hm hk' hb .nil pass0 ha hdb he hpl) fun σ H Q ⟨hE, q⟩ => ⟨hE, fun vs H1 s1 d1 => ?_⟩
  show spD X.K R (vs ++ []) H1 Q E0
  rw [List.append_nil]
  exact ⟨ds, r, d1, hR, fun v H2 s2 d2 => q v H2 (s1.trans s2) d2⟩
theorem evl_call {x : Str} {k j : Nat} {R : List PyData → List PyData → Prop} {ds r : List PyData} (c : Cd X.prog X.w X.K X.mg X.base k x (spL X.K R)) (hr : Room j X.A) (hk : k ≤ j) (hg : Gl X x) (ha : EvA X env (e :: es) ds) (hR : R ds r)
    (hdb : (x == ("__debug__" : Str)) = false := by decide) (he : starEach (e :: es) X.env = (false, eval e X.env) :: starEach es X.env := by rfl) (hpl : (backTo pos (starEach es X.env)).any (·.1) = false := by rfl) :
    EvL X env (.Call (.Name x p) (e :: es) [] pos) r := by
  obtain ⟨f, fd, ps, F, hm, hk', hb⟩ := c.ex
  refine wkE (pe_call F (hr.mono hk) hg hm hk' hb .nil pass0 ha hdb he hpl) fun σ H Q ⟨hE, q⟩ => ⟨hE, fun vs H1 s1 d1 => ?_⟩
  show spL X.K R (vs ++ []) H1 Q E0
  rw [List.append_nil]
  exact ⟨ds, r, d1, hR, fun l us H2 s2 hl h2 d2 => q l us H2 (s1.trans s2) (s1.free hl) h2 d2⟩
end
end Sw

namespace Sw
open PySem PySem.Spec PyProof.Rows L2

/-! ### operators on data -/
section
variable {X : Cx}
theorem opd_rI {K : PySem.W.Frag} {C : Int → Int → Prop} {g : Int → Int → Int} {i j : Int} (h : C i j) : OpD K (rI C fun i j => .int (g i j)) (.int i) (.int j) (.int (g i j)) := fun H v u Q d1 d2 q => by
  cases d1
  cases d2
  exact ⟨i, j, rfl, rfl, h, q _ H (Same.refl H) (.int _)⟩
theorem opd_rI0 {K : PySem.W.Frag} {g : Int → Int → Int} {i j : Int} : OpD K (rI0 fun i j => .int (g i j)) (.int i) (.int j) (.int (g i j)) := fun H v u Q d1 d2 q => by
  cases d1
  cases d2
  exact ⟨i, j, rfl, rfl, q _ H (Same.refl H) (.int _)⟩
theorem opd_rB0 {K : PySem.W.Frag} {g : Int → Int → Bool} {i j : Int} : OpD K (rI0 fun i j => .bl (g i j)) (.int i) (.int j) (.bool (g i j)) := fun H v u Q d1 d2 q => by
  cases d1
  cases d2
  exact ⟨i, j, rfl, rfl, q _ H (Same.refl H) (.bl _)⟩
theorem bin_addI {i j : Int} : Bin X .Add (.int i) (.int j) (.int (i + j)) := ⟨_, op_add, opd_rI0⟩
theorem bin_subI {i j : Int} : Bin X .Sub (.int i) (.int j) (.int (i - j)) := ⟨_, op_sub, opd_rI0⟩
theorem bin_mulI {i j : Int} (h : (-(2 ^ 64) < i ∧ i < 2 ^ 64) ∨ (-(2 ^ 64) < j ∧ j < 2 ^ 64)) : Bin X .Mult (.int i) (.int j) (.int (i * j)) := ⟨_, op_mul, opd_rI h⟩
theorem bin_modI {i j : Int} (h : 0 < j) : Bin X .Mod (.int i) (.int j) (.int (i % j)) := ⟨_, op_mod, opd_rI h⟩
theorem bin_fdivI {i j : Int} (h : 0 < j ∧ j < 1073741824) : Bin X .FloorDiv (.int i) (.int j) (.int (i / j)) := ⟨_, op_fdiv, opd_rI h⟩
theorem bin_powI {i j : Int} (h : 0 ≤ j ∧ j ≤ 1000000 ∧ i.natAbs < 2 ^ 64) : Bin X .Pow (.int i) (.int j) (.int (i ^ j.toNat)) := ⟨_, op_pow, opd_rI h⟩
theorem bin_addS {a b : List Nat} (h : a.length + b.length ≤ 1000000) : Bin X .Add (.str (SX.S a)) (.str (SX.S b)) (.str (SX.S (a ++ b))) := ⟨_, op_add_str, fun H v u Q d1 d2 q => by
  cases d1
  cases d2
  refine ⟨_, _, rfl, rfl, ?_, ?_⟩
  · rw [SX.S_len, SX.S_len]
    exact Nat.le_trans h (by decide)
  · rw [SX.S_cat]
    exact q _ H (Same.refl H) (.str _)⟩
theorem foldl_reps : ∀ (n : Nat) (l acc : List Nat), (List.replicate n l.toArray).foldl (· ++ ·) acc.toArray = (acc ++ (List.replicate n l).flatten).toArray
  | 0, l, acc => by simp
  | n + 1, l, acc => by
    rw [List.replicate_succ, List.foldl_cons, show acc.toArray ++ l.toArray = (acc ++ l).toArray by simp, foldl_reps n l (acc ++ l), List.replicate_succ, List.flatten_cons, List.append_assoc]
theorem mul_S (l : List Nat) (n : Int) : Txt.mul (SX.S l) n = SX.S (List.replicate n.toNat l).flatten := by
  unfold Txt.mul
  by_cases h1 : n < 1
  · rw [if_pos h1]
    have e : n.toNat = 0 := by omega
    rw [e]
    rfl
  · rw [if_neg h1]
    by_cases h2 : (n == 1 || (SX.S l).length == 0) = true
    · rw [if_pos h2]
      rw [Bool.or_eq_true] at h2
      rcases h2 with h | h
      · have e : n = 1 := by simpa using h
        subst e
        simp
      · have e : l = [] := by
          have : (SX.S l).length = 0 := by simpa using h
          rw [SX.S_len] at this
          exact List.eq_nil_of_length_eq_zero this
        subst e
        have : ∀ m : Nat, (List.replicate m ([] : List Nat)).flatten = [] := fun m => by induction m with
          | zero => rfl
          | succ m ih => rw [List.replicate_succ, List.flatten_cons, ih]; rfl
        rw [this]
    · rw [if_neg h2]
      have := foldl_reps n.toNat l []
      simp only [List.nil_append] at this
      show (⟨_⟩ : Str) = _
      rw [show (#[] : Array Nat) = ([] : List Nat).toArray from rfl, this]
theorem bin_mulS {l : List Nat} {n : Int} (hl : l.length ≤ 1000) (hn : n ≤ 10000) (hn0 : -10000 ≤ n) : Bin X .Mult (.str (SX.S l)) (.int n) (.str (SX.S (List.replicate n.toNat l).flatten)) := ⟨fun x y H Q => ∃ l n, x = .str (SX.S l) ∧ y = .int n ∧ l.length ≤ 1000 ∧ n ≤ 10000 ∧ -10000 ≤ n ∧ Q (.str (SX.S (List.replicate n.toNat l).flatten)) H, fun pins s σ H x y v u Q I rx ry h => by
  obtain ⟨l, n, rfl, rfl, h1, h2, h3, q⟩ := h
  obtain ⟨t, rfl⟩ := rx
  obtain ⟨t', rfl⟩ := ry
  refine SB.mul (mulOk_of 1000 10000 (by rw [SX.S_len]; exact h1) (by omega) (by omega) (by decide) (by decide)) fun t2 k => ?_
  rw [mul_S]
  exact ⟨.str _, H, I.tok _, ⟨_, rfl⟩, q⟩, fun H v u Q d1 d2 q => by
  cases d1
  cases d2
  exact ⟨l, n, rfl, rfl, hl, hn, hn0, q _ H (Same.refl H) (.str _)⟩⟩
theorem un_negI {i : Int} : Un1 X .USub (.int i) (.int (-i)) := ⟨_, un_neg, fun H v Q d q => by
  cases d
  exact ⟨i, rfl, q _ H (Same.refl H) (.int _)⟩⟩
/-! comparisons -/
theorem cmp_eqI {i j : Int} : Cmp X .Eq (.int i) (.int j) (decide (i = j)) := ⟨_, op_eq, fun H v u Q d1 d2 q => by
  cases d1
  cases d2
  refine ⟨rfl, ?_⟩
  have e : decide (V.int i = V.int j) = decide (i = j) := by simp
  rw [e]
  exact q _ H (Same.refl H) (.bl _)⟩
theorem cmp_neI {i j : Int} : Cmp X .NotEq (.int i) (.int j) (!decide (i = j)) := ⟨_, op_ne, fun H v u Q d1 d2 q => by
  cases d1
  cases d2
  refine ⟨rfl, ?_⟩
  have e : decide (V.int i = V.int j) = decide (i = j) := by simp
  rw [e]
  exact q _ H (Same.refl H) (.bl _)⟩
theorem cmp_ltI {i j : Int} : Cmp X .Lt (.int i) (.int j) (decide (i < j)) := ⟨_, op_lt, opd_rB0⟩
theorem cmp_leI {i j : Int} : Cmp X .LtE (.int i) (.int j) (decide (i ≤ j)) := ⟨_, op_le, opd_rB0⟩
theorem cmp_gtI {i j : Int} : Cmp X .Gt (.int i) (.int j) (decide (j < i)) := ⟨_, op_gt, opd_rB0⟩
theorem cmp_geI {i j : Int} : Cmp X .GtE (.int i) (.int j) (decide (j ≤ i)) := ⟨_, op_ge, opd_rB0⟩
theorem S_eq {a b : List Nat} : (SX.S a = SX.S b) ↔ a = b := ⟨fun h => SX.S_inj h, fun h => by rw [h]⟩
theorem cmp_eqS {a b : List Nat} : Cmp X .Eq (.str (SX.S a)) (.str (SX.S b)) (decide (a = b)) := ⟨_, op_eq, fun H v u Q d1 d2 q => by
  cases d1
  cases d2
  refine ⟨rfl, ?_⟩
  have e : decide (V.str (SX.S a) = V.str (SX.S b)) = decide (a = b) := by
    by_cases h : a = b
    · subst h; simp
    · rw [decide_eq_false h, decide_eq_false (fun z => h (SX.S_inj (V.str.inj z)))]
  rw [e]
  exact q _ H (Same.refl H) (.bl _)⟩
theorem cmp_neS {a b : List Nat} : Cmp X .NotEq (.str (SX.S a)) (.str (SX.S b)) (!decide (a = b)) := ⟨_, op_ne, fun H v u Q d1 d2 q => by
  cases d1
  cases d2
  refine ⟨rfl, ?_⟩
  have e : decide (V.str (SX.S a) = V.str (SX.S b)) = decide (a = b) := by
    by_cases h : a = b
    · subst h; simp
    · rw [decide_eq_false h, decide_eq_false (fun z => h (SX.S_inj (V.str.inj z)))]
  rw [e]
  exact q _ H (Same.refl H) (.bl _)⟩
/-! deep equality of data without truth values -/
mutual
/-- ints, texts of good signs, tuples and lists of such, at most n deep -/
def pl : Nat → PyData → Bool
  | _, .int _ => true
  | _, .str x => PyData.strOk x
  | n + 1, .list ds => pls n ds
  | n + 1, .tuple ds => pls n ds
  | _, _ => false
def pls : Nat → List PyData → Bool
  | _, [] => true
  | n, d :: ds => pl n d && pls n ds
end
mutual
theorem pl_shape : ∀ (d : PyData) (n : Nat), pl n d = true → d.canLay0 = true ∧ d.depth ≤ n
  | .none, n, h => by cases n <;> cases h
  | .bool _, n, h => by cases n <;> cases h
  | .int _, n, h => ⟨by simp [PyData.canLay0], by simp [PyData.depth]⟩
  | .str x, n, h => ⟨by cases n <;> (simp only [pl] at h; simpa [PyData.canLay0] using h), by simp [PyData.depth]⟩
  | .dict _, n, h => by cases n <;> cases h
  | .list ds, 0, h => by cases h
  | .tuple ds, 0, h => by cases h
  | .list ds, n + 1, h => by
    simp only [pl] at h
    have := pls_shape ds n h
    exact ⟨by simp only [PyData.canLay0]; exact this.1, by simp only [PyData.depth]; omega⟩
  | .tuple ds, n + 1, h => by
    simp only [pl] at h
    have := pls_shape ds n h
    exact ⟨by simp only [PyData.canLay0]; exact this.1, by simp only [PyData.depth]; omega⟩
theorem pls_shape : ∀ (ds : List PyData) (n : Nat), pls n ds = true → PyData.canLayAll0 ds = true ∧ PyData.depthAll ds ≤ n
  | [], n, h => ⟨by simp [PyData.canLayAll0], by simp [PyData.depthAll]⟩
  | d :: ds, n, h => by
    simp only [pls, Bool.and_eq_true] at h
    have h1 := pl_shape d n h.1
    have h2 := pls_shape ds n h.2
    refine ⟨by simp only [PyData.canLayAll0, Bool.and_eq_true]; exact ⟨h1.1, h2.1⟩, by simp only [PyData.depthAll]; omega⟩
end
mutual
theorem pl_eqv : ∀ (d e : PyData) (n m : Nat), pl n d = true → pl m e = true → (PyData.eqv d e = true ↔ d = e)
  | .none, _, n, _, h, _ => by cases n <;> cases h
  | .bool _, _, n, _, h, _ => by cases n <;> cases h
  | .dict _, _, n, _, h, _ => by cases n <;> cases h
  | .int i, e, n, m, h, g => by
    cases e with
    | int j => simp [PyData.eqv]
    | bool b => cases m <;> cases g
    | _ => simp [PyData.eqv]
  | .str x, e, n, m, h, g => by
    cases e with
    | str y => simp [PyData.eqv]
    | _ => simp [PyData.eqv]
  | .list ds, e, 0, m, h, g => by cases h
  | .tuple ds, e, 0, m, h, g => by cases h
  | .list ds, e, n + 1, m, h, g => by
    cases e with
    | list es =>
      cases m with
      | zero => cases g
      | succ m =>
        simp only [pl] at h g
        simp only [PyData.eqv, PyData.list.injEq]
        exact pls_eqv ds es n m h g
    | _ => simp [PyData.eqv]
  | .tuple ds, e, n + 1, m, h, g => by
    cases e with
    | tuple es =>
      cases m with
      | zero => cases g
      | succ m =>
        simp only [pl] at h g
        simp only [PyData.eqv, PyData.tuple.injEq]
        exact pls_eqv ds es n m h g
    | _ => simp [PyData.eqv]
theorem pls_eqv : ∀ (ds es : List PyData) (n m : Nat), pls n ds = true → pls m es = true → (PyData.eqvAll ds es = true ↔ ds = es)
  | [], [], _, _, _, _ => by simp [PyData.eqvAll]
  | [], _ :: _, _, _, _, _ => by simp [PyData.eqvAll]
  | _ :: _, [], _, _, _, _ => by simp [PyData.eqvAll]
  | d :: ds, e :: es, n, m, h, g => by
    simp only [pls, Bool.and_eq_true] at h g
    simp only [PyData.eqvAll, Bool.and_eq_true, List.cons.injEq]
    rw [pl_eqv d e n m h.1 g.1, pls_eqv ds es n m h.2 g.2]
end
mutual
theorem pl_noD : ∀ (d : PyData) (n : Nat), pl n d = true → noD d = true
  | .none, n, h => by cases n <;> cases h
  | .bool _, n, h => by cases n <;> cases h
  | .dict _, n, h => by cases n <;> cases h
  | .int _, n, h => by simp [noD]
  | .str _, n, h => by simp [noD]
  | .list ds, 0, h => by cases h
  | .tuple ds, 0, h => by cases h
  | .list ds, n + 1, h => by
    simp only [pl] at h
    simp only [noD]
    exact pls_noD ds n h
  | .tuple ds, n + 1, h => by
    simp only [pl] at h
    simp only [noD]
    exact pls_noD ds n h
theorem pls_noD : ∀ (ds : List PyData) (n : Nat), pls n ds = true → noDs ds = true
  | [], _, _ => by simp [noDs]
  | d :: ds, n, h => by
    simp only [pls, Bool.and_eq_true] at h
    simp only [noDs, Bool.and_eq_true]
    exact ⟨pl_noD d n h.1, pls_noD ds n h.2⟩
end
theorem pl_shaped {d : PyData} {n : Nat} (h : pl n d = true) (hn : n ≤ 64) : SeqAt.shaped d = true := by
  have := pl_shape d n h
  show (d.canLay0 && decide (d.depth ≤ 64)) = true
  rw [Bool.and_eq_true]
  exact ⟨this.1, decide_eq_true (by omega)⟩
theorem cmp_eqD {d e : PyData} {b : Bool} {k : Nat} (hr : Room k X.A) (h : pl 9 d = true) (g : pl 9 e = true) (hb : b = true ↔ d = e) : Cmp X .Eq d e b := ⟨_, op_eqD hr.units, fun H v u Q d1 d2 q => by
  refine ⟨d, e, rp_dp _ _ (pl_noD _ _ h) d1, rp_dp _ _ (pl_noD _ _ g) d2, pl_shaped h (by decide), pl_shaped g (by decide), ?_⟩
  have := pl_eqv d e 9 9 h g
  have e1 : PyData.eqv d e = b := by
    rw [Bool.eq_iff_iff, this, hb]
  rw [e1]
  exact q _ H (Same.refl H) (.bl _)⟩
theorem cmp_neD {d e : PyData} {b : Bool} {k : Nat} (hr : Room k X.A) (h : pl 9 d = true) (g : pl 9 e = true) (hb : b = true ↔ d = e) : Cmp X .NotEq d e (!b) := ⟨_, op_neD hr.units, fun H v u Q d1 d2 q => by
  refine ⟨d, e, rp_dp _ _ (pl_noD _ _ h) d1, rp_dp _ _ (pl_noD _ _ g) d2, pl_shaped h (by decide), pl_shaped g (by decide), ?_⟩
  have := pl_eqv d e 9 9 h g
  have e1 : PyData.eqv d e = b := by
    rw [Bool.eq_iff_iff, this, hb]
  rw [e1]
  exact q _ H (Same.refl H) (.bl _)⟩
theorem pls_of {n : Nat} : ∀ {ds : List PyData}, (∀ d ∈ ds, pl n d = true) → pls n ds = true
  | [], _ => rfl
  | d :: ds, h => by
    simp only [pls, Bool.and_eq_true]
    exact ⟨h d (List.mem_cons_self ..), pls_of fun e m => h e (List.mem_cons_of_mem _ m)⟩
theorem pls_map {α : Type} {n : Nat} {f : α → PyData} {l : List α} (h : ∀ a, pl n (f a) = true) : pls n (l.map f) = true := pls_of fun d hd => by
  obtain ⟨a, _, rfl⟩ := List.mem_map.mp hd
  exact h a
/-- one sign in a text -/
theorem cmp_inS {c : Nat} {l : List Nat} : Cmp X .In (.str (SX.S [c])) (.str (SX.S l)) (decide (c ∈ l)) := ⟨_, op_in_sign, fun H v u Q d1 d2 q => by
  cases d1
  cases d2
  exact ⟨c, _, rfl, rfl, q _ H (Same.refl H) (.bl _)⟩⟩

/-! subscripts -/
theorem atI_rp {K : PySem.W.Frag} {H : Hp} {vs : List V} {ds : List PyData} {i : Int} {d : PyData} (h : RpAll K H vs ds) (e : atI ds i = some d) : ∃ v, atI vs i = some v ∧ Rp K H v d := by
  unfold atI at e ⊢
  rw [RpAll.len h]
  cases q : ixN ds.length i with
  | none => rw [q] at e; cases e
  | some j =>
    rw [q] at e
    exact RpAll.get h e
theorem ix_L {ds : List PyData} {i : Int} {d : PyData} (h : atI ds i = some d) : Ix X (.list ds) (.int i) d := ⟨_, ix_list, fun H v u Q d1 d2 q => by
  cases d2
  cases d1 with
  | lst hs ha =>
    obtain ⟨w, hw, r⟩ := atI_rp ha h
    exact ⟨_, _, i, w, rfl, rfl, hs, hw, q _ H (Same.refl H) r⟩⟩
theorem ix_T {ds : List PyData} {i : Int} {d : PyData} (h : atI ds i = some d) : Ix X (.tuple ds) (.int i) d := ⟨_, ix_tup, fun H v u Q d1 d2 q => by
  cases d2
  cases d1 with
  | tup hs ha =>
    obtain ⟨w, hw, r⟩ := atI_rp ha h
    exact ⟨_, _, i, w, rfl, rfl, .of hs, hw, q _ H (Same.refl H) r⟩⟩
theorem ix_S {l : List Nat} {i : Int} {c : Nat} (h : atI l i = some c) (hl : l.length ≤ 1000000) : Ix X (.str (SX.S l)) (.int i) (.str (SX.S [c])) := ⟨_, ix_str, fun H v u Q d1 d2 q => by
  cases d2
  cases d1
  exact ⟨_, i, c, rfl, rfl, by rw [SX.S_len]; exact Nat.le_trans hl (by decide), by simpa using h, q _ H (Same.refl H) (.str _)⟩⟩
end

/-! ### builtins -/
section
variable {X : Cx}
theorem call_lenL {ds : List PyData} : CallD X (.builtin "len") [.list ds] (.int (ds.length : Int)) := ⟨_, call_len_seq, fun H vs Q d q => by
  cases d with
  | cons a b =>
    cases b
    cases a with
    | lst hs ha =>
      refine ⟨_, _, rfl, .inl hs, ?_⟩
      rw [RpAll.len ha]
      exact q _ H (Same.refl H) (.int _)⟩
theorem call_lenS {l : List Nat} (h : l.length ≤ 1000000) : CallD X (.builtin "len") [.str (SX.S l)] (.int (l.length : Int)) := ⟨_, call_len_str, fun H vs Q d q => by
  cases d with
  | cons a b =>
    cases b
    cases a
    refine ⟨_, rfl, by rw [SX.S_len]; exact Nat.le_trans h (by decide), ?_⟩
    rw [SX.S_len]
    exact q _ H (Same.refl H) (.int _)⟩
theorem call_lenT {ds : List PyData} : CallD X (.builtin "len") [.tuple ds] (.int (ds.length : Int)) := ⟨_, call_len_seq, fun H vs Q d q => by
  cases d with
  | cons a b =>
    cases b
    cases a with
    | tup hs ha =>
      refine ⟨_, _, rfl, .inr (.of hs), ?_⟩
      rw [RpAll.len ha]
      exact q _ H (Same.refl H) (.int _)⟩
theorem call_absI {i : Int} : CallD X (.builtin "abs") [.int i] (.int (if i < 0 then -i else i)) := ⟨_, call_abs, fun H vs Q d q => by
  cases d with
  | cons a b =>
    cases b
    cases a
    exact ⟨_, rfl, q _ H (Same.refl H) (.int _)⟩⟩
theorem call_minI {i j : Int} (hc : X.calm = true) : CallD X (.builtin "min") [.int i, .int j] (.int (if j < i then j else i)) := ⟨_, call_min2 hc, fun H vs Q d q => by
  cases d with
  | cons a b =>
    cases b with
    | cons b c =>
      cases c
      cases a
      cases b
      exact ⟨_, _, rfl, q _ H (Same.refl H) (.int _)⟩⟩
theorem call_sumI {ns : List Int} (hc : X.calm = true) : CallD X (.builtin "sum") [.list (ns.map PyData.int)] (.int ns.sum) := ⟨_, cr_sum hc, fun H vs Q d q => by
  cases d with
  | cons a b =>
    cases b
    cases a with
    | lst hs ha =>
      rw [ints_of ha] at hs
      exact ⟨_, ns, rfl, hs, q _ H (Same.refl H) (.int _)⟩⟩
theorem call_anyB {bs : List Bool} (hc : X.calm = true) : CallD X (.builtin "any") [.list (bs.map PyData.bool)] (.bool (bs.any id)) := ⟨_, cr_any hc, fun H vs Q d q => by
  cases d with
  | cons a b =>
    cases b
    cases a with
    | lst hs ha =>
      rw [bls_of ha] at hs
      exact ⟨_, bs, rfl, hs, q _ H (Same.refl H) (.bl _)⟩⟩
theorem call_allB {bs : List Bool} (hc : X.calm = true) : CallD X (.builtin "all") [.list (bs.map PyData.bool)] (.bool (bs.all id)) := ⟨_, cr_all hc, fun H vs Q d q => by
  cases d with
  | cons a b =>
    cases b
    cases a with
    | lst hs ha =>
      rw [bls_of ha] at hs
      exact ⟨_, bs, rfl, hs, q _ H (Same.refl H) (.bl _)⟩⟩
/-! isinstance(x, T), T a builtin class -/
def tyD : PyData → String
  | .none => "NoneType"
  | .bool _ => "bool"
  | .int _ => "int"
  | .str _ => "str"
  | .list _ => "list"
  | .tuple _ => "tuple"
  | .dict _ => "dict"
theorem rp_ty {K : PySem.W.Frag} {H : Hp} {v : V} {d : PyData} (h : Rp K H v d) (hd : tyD d ≠ "dict") : TyX K H v (.type (tyD d)) := by
  cases h with
  | non => exact .base .non
  | bl b => exact .base (.bl b)
  | int i => exact .base (.int i)
  | str x => exact .base (.str x)
  | lst hs ha =>
    rcases hs with (h | ⟨o, h⟩) | ⟨o, its, n, h, hc, _⟩
    · exact .base (.lst h)
    · exact .base (.frz h)
    · exact .kList h hc
  | tup hs ha => exact .base (.tup hs)
  | obj _ _ _ => exact absurd rfl hd
  | emp _ => exact absurd rfl hd
theorem rp_tyE {K : PySem.W.Frag} {H : Hp} {v : V} (h : Rp K H v (.dict [])) : TyX K H v (.type "dict") := by
  cases h with
  | emp h => exact .base (.dK h)
  | obj _ hk _ => cases hk
theorem ev_isiE {env : En} {e : Expr} {T : Str} {t : String} {b : Bool} {p pT pos : Pos} (he : Ev X env e (.dict [])) (hg : Gl X "isinstance") (hm : X.mg "isinstance" = none) (hgT : Gl X T) (hmT : X.mg T = none) (hv : bootBuiltins T = some (.type t)) (hk : kitB "dict" t = some b)
    (hn : T ≠ "__name__" := by decide) (hdb : (T == ("__debug__" : Str)) = false := by decide)
    (hs : starEach [e, .Name T pT] X.env = (false, eval e X.env) :: starEach [.Name T pT] X.env := by rfl) (hs2 : starEach [.Name T pT] X.env = (false, eval (.Name T pT) X.env) :: starEach [] X.env := by rfl) (hpl : (backTo pos (starEach [.Name T pT] X.env)).any (·.1) = false := by rfl) :
    Ev X env (.Call (.Name "isinstance" p) [e, .Name T pT] [] pos) (.bool b) :=
  wkE (pe_callB call_isi hg hm (by decide +kernel) (pa_cons he (pa_cons (pe_bltn (v := .ty t) hgT hmT hv rfl hn hdb) pa_nil hs2) hs) (by decide) (by decide) hs hpl) fun σ H Q ⟨hE, q⟩ => ⟨hE, fun v H1 s1 d1 =>
    ⟨v, .ty t, _, _, b, rfl, .ty t, rp_tyE d1, kit_ty hk, q _ H1 s1 (.bl b)⟩⟩
theorem ev_isi {env : En} {e : Expr} {d : PyData} {T : Str} {t : String} {b : Bool} {p pT pos : Pos} (he : Ev X env e d) (hg : Gl X "isinstance") (hm : X.mg "isinstance" = none) (hgT : Gl X T) (hmT : X.mg T = none) (hv : bootBuiltins T = some (.type t)) {ty : String} (hty : tyD d = ty) (hk : kitB ty t = some b) (hnd : ty ≠ "dict")
    (hn : T ≠ "__name__" := by decide) (hdb : (T == ("__debug__" : Str)) = false := by decide)
    (hs : starEach [e, .Name T pT] X.env = (false, eval e X.env) :: starEach [.Name T pT] X.env := by rfl) (hs2 : starEach [.Name T pT] X.env = (false, eval (.Name T pT) X.env) :: starEach [] X.env := by rfl) (hpl : (backTo pos (starEach [.Name T pT] X.env)).any (·.1) = false := by rfl) :
    Ev X env (.Call (.Name "isinstance" p) [e, .Name T pT] [] pos) (.bool b) :=
  wkE (pe_callB call_isi hg hm (by decide +kernel) (pa_cons he (pa_cons (pe_bltn (v := .ty t) hgT hmT hv rfl hn hdb) pa_nil hs2) hs) (by decide) (by decide) hs hpl) fun σ H Q ⟨hE, q⟩ => ⟨hE, fun v H1 s1 d1 =>
    ⟨v, .ty t, _, _, b, rfl, .ty t, rp_ty d1 (by rw [hty]; exact hnd), kit_ty (hty ▸ hk), q _ H1 s1 (.bl b)⟩⟩
/-! methods of texts -/
def MtD (X : Cx) (id : String) (x : PyData) (ys : List PyData) (z : PyData) : Prop := ∃ r, MtR X id r ∧ ∀ (H : Hp) (v : V) (us : List V) (Q : VK), Rp X.K H v x → RpAll X.K H us ys → (∀ w H', Same H H' → Rp X.K H' w z → Q w H') → r v us H Q
theorem ev_m1 {env : En} {o e : Expr} {x y z : PyData} {id : String} {name : Str} {apos pos : Pos} (slot : Slot "str" name id) (ty : typeOf (.builtin id) = pure (.type "method_descriptor")) (hm : MtD X id x [y] z) (hx : tyD x = "str") (ho : Ev X env o x) (he : Ev X env e y)
    (hs : starEach [e] X.env = [(false, eval e X.env)] := by rfl) (hbase : attributeBase o name X.env (eval o X.env) = eval o X.env := by rfl) (hline : (apos.endLine == pos.line) = true := by rfl) :
    Ev X env (.Call (.Attribute o name apos) [e] [] pos) z := by
  obtain ⟨r, hr, hd⟩ := hm
  refine wkE (pe_m1 slot ty hr ho he hs hbase hline) fun σ H Q ⟨hE, q⟩ => ⟨hE, fun v H1 s1 d1 => ?_⟩
  have hv : ∃ t, v = .str t := by
    cases d1 with
    | str t => exact ⟨t, rfl⟩
    | _ => exact absurd hx (by simp [tyD])
  exact ⟨hv, hE.mono s1, fun u H2 s2 d2 => hd H2 _ [u] Q (d1.mono s2) (.cons d2 .nil) fun w H3 s3 d3 => q w H3 (s1.trans (s2.trans s3)) d3⟩
theorem joinL_nil (ls : List (List Nat)) : TL.joinL [] ls = ls.flatten := by
  induction ls with
  | nil => rfl
  | cons a r ih =>
    cases r with
    | nil => simp [TL.joinL]
    | cons b r =>
      show a ++ ([] ++ TL.joinL [] (b :: r)) = _
      rw [ih]
      simp
theorem sum_len (ls : List (List Nat)) : ((ls.map SX.S).map (·.length)).sum = ls.flatten.length := by
  induction ls with
  | nil => rfl
  | cons a r ih => simp only [List.map_cons, List.sum_cons, List.flatten_cons, List.length_append, ih, SX.S_len]
/-- ''.join(texts) -/
theorem mt_join0 {ls : List (List Nat)} (h : ls.flatten.length ≤ 1000000) : MtD X "str.join" (.str (SX.S [])) [.list (ls.map fun l => .str (SX.S l))] (.str (SX.S ls.flatten)) := ⟨_, mt_join, fun H v us Q d1 d2 q => by
  cases d1
  cases d2 with
  | cons a b =>
    cases b
    cases a with
    | lst hs ha =>
      have e : (ls.map fun l => PyData.str (SX.S l)) = (ls.map SX.S).map PyData.str := by rw [List.map_map]; rfl
      rw [e] at ha
      rw [strs_of ha] at hs
      refine ⟨_, _, ls.map SX.S, rfl, rfl, .inl hs, ?_, ?_⟩
      · rw [sum_len, SX.S_len]
        show ls.flatten.length + (ls.map SX.S).length * 0 ≤ _
        omega
      · rw [SX.join_S, joinL_nil]
        exact q _ H (Same.refl H) (.str _)⟩
theorem ev_join {env : En} {e : Expr} {j : Nat} {ls : List (List Nat)} {apos p pos : Pos} (he : Ev X env e (.list (ls.map fun l => .str (SX.S l)))) (h : ls.flatten.length ≤ 1000000)
    (hs : starEach [e] X.env = [(false, eval e X.env)] := by rfl) (hline : (apos.endLine == pos.line) = true := by rfl) : Ev X env (.Call (.Attribute (.Constant (.str "") j p) "join" apos) [e] [] pos) (.str (SX.S ls.flatten)) :=
  ev_m1 PySem.F.slot_str_join PySem.F.type_str_join (mt_join0 h) rfl ev_str he hs rfl hline
/-- count of one sign -/
theorem forIn_count (x : Str) (c : Nat) (hi : hi = x.length) : ∀ (n i : Nat) (st : Array Nat × Nat), i + n = x.length + 1 → st.fst.size ≤ i → st.snd ≤ i → (forIn (List.range' i n) st (StrLaws.occBody x ⟨#[c]⟩ x.length (x.length + 1))).run.fst.size = st.fst.size + ((x.cps.toList.drop i).filter (· == c)).length
  | 0, i, st, e, _, _ => by
    have hx : x.cps.toList.length = x.length := by simp [Str.length]
    have : x.cps.toList.drop i = [] := List.drop_eq_nil_of_le (by omega)
    rw [this]
    simp
  | n + 1, i, st, e, h1, h2 => by
    rw [List.range'_succ, List.forIn_cons]
    unfold StrLaws.occBody
    have key := StrLaws.subAt_one x c i
    by_cases hc : x.cps.toList[i]? = some c
    · have k := key.mpr hc
      have c1 : (st.fst.size < x.length + 1 ∧ st.snd ≤ i) ∧ i + (⟨#[c]⟩ : Str).length ≤ x.length := ⟨⟨by omega, h2⟩, k.1⟩
      rw [if_pos ⟨c1, k.2⟩]
      have ih := forIn_count x c hi n (i + 1) (st.fst.push i, i + (⟨#[c]⟩ : Str).length) (by omega) (by simp; omega) (by show i + 1 ≤ i + 1; exact Nat.le_refl _)
      refine Eq.trans ih ?_
      obtain ⟨hlt, hg⟩ := List.getElem?_eq_some_iff.mp hc
      rw [List.drop_eq_getElem_cons hlt, hg, List.filter_cons]
      simp
      omega
    · have k : ¬ (((st.fst.size < x.length + 1 ∧ st.snd ≤ i) ∧ i + (⟨#[c]⟩ : Str).length ≤ x.length) ∧ Builtin.Str.subAt x ⟨#[c]⟩ i = true) := fun z => hc (key.mp ⟨z.1.2, z.2⟩)
      rw [if_neg k]
      have ih := forIn_count x c hi n (i + 1) (st.fst, st.snd) (by omega) (show st.fst.size ≤ i + 1 by omega) (show st.snd ≤ i + 1 by omega)
      refine Eq.trans ih ?_
      by_cases hlt : i < x.cps.toList.length
      · rw [List.drop_eq_getElem_cons hlt, List.filter_cons]
        have : ¬ (x.cps.toList[i] == c) = true := fun z => hc (by rw [List.getElem?_eq_getElem hlt]; simpa using z)
        rw [if_neg this]
      · rw [List.drop_eq_nil_of_le (by omega), List.drop_eq_nil_of_le (by omega)]
theorem count_S (l : List Nat) (c : Nat) : Txt.count (SX.S l) (SX.S [c]) = ((l.filter (· == c)).length : Nat) := by
  unfold Txt.count
  have h := forIn_count (SX.S l) c rfl ((SX.S l).length + 1 - 0) 0 (#[], 0) (by omega) (by simp) (by simp)
  show (((Builtin.Str.occurrences (SX.S l) ⟨#[c]⟩ 0 (SX.S l).length ((SX.S l).length + 1)).length : Nat) : Int) = _
  rw [StrLaws.occ_eq, Array.length_toList, h]
  simp
theorem mt_count1 {l : List Nat} {c : Nat} : MtD X "str.count" (.str (SX.S l)) [.str (SX.S [c])] (.int ((l.filter (· == c)).length : Nat)) := ⟨_, mt_count, fun H v us Q d1 d2 q => by
  cases d1
  cases d2 with
  | cons a b =>
    cases b
    cases a
    refine ⟨_, _, rfl, rfl, ?_⟩
    rw [count_S]
    exact q _ H (Same.refl H) (.int _)⟩
/-- index of a sign that is there -/
theorem mt_index1 {l : List Nat} {c i : Nat} (h : l[i]? = some c) (hb : ∀ j, j < i → l[j]? ≠ some c) : MtD X "str.index" (.str (SX.S l)) [.str (SX.S [c])] (.int (i : Nat)) := by
  have occ : ∃ rest, Builtin.Str.occurrences (SX.S l) (SX.S [c]) 0 (SX.S l).length 1 = i :: rest := by
    have tl : (SX.S l).cps.toList = l := by simp
    rcases PySem.StrLaws.occ_head (SX.S l) (SX.S [c]) 1 (Nat.le_refl 1) with ⟨_, hn⟩ | ⟨k, r, e, ha, hn⟩
    · exact absurd ((PySem.StrLaws.subAt_one (SX.S l) c i).mpr (by rw [tl]; exact h)) (hn i)
    · have hk := (PySem.StrLaws.subAt_one (SX.S l) c k).mp ha
      rw [tl] at hk
      have e1 : ¬ i < k := fun z => hn i z ((PySem.StrLaws.subAt_one (SX.S l) c i).mpr (by rw [tl]; exact h))
      have e2 : ¬ k < i := fun z => hb k z hk
      have e3 : k = i := by omega
      subst e3
      exact ⟨r, e⟩
  obtain ⟨rest, e⟩ := occ
  exact ⟨_, mt_sindex, fun H v us Q d1 d2 q => by
    cases d1
    cases d2 with
    | cons a b =>
      cases b
      cases a
      exact ⟨_, _, i, rest, rfl, rfl, e, q _ H (Same.refl H) (.int _)⟩⟩
end
end Sw

namespace Sw
open PySem PySem.Spec PyProof.Rows L2

/-! ### slices -/
def cut {α : Type} (xs : List α) (lo hi : Option Int) : List α := (xs.drop (HT.sIx xs.length 0 lo)).take (HT.sIx xs.length xs.length hi - HT.sIx xs.length 0 lo)
theorem cut_to {α : Type} (xs : List α) (k : Nat) : cut xs none (some (k : Int)) = xs.take k := by
  unfold cut
  rw [HT.sIx_nat, HT.sIx_none, List.drop_zero, Nat.sub_zero]
  by_cases h : k ≤ xs.length
  · rw [Nat.min_eq_left h]
  · rw [Nat.min_eq_right (by omega), List.take_length, List.take_of_length_le (by omega)]
theorem cut_from {α : Type} (xs : List α) (k : Nat) : cut xs (some (k : Int)) none = xs.drop k := by
  unfold cut
  rw [HT.sIx_nat, HT.sIx_none]
  by_cases h : k ≤ xs.length
  · rw [Nat.min_eq_left h, List.take_of_length_le (by rw [List.length_drop]; exact Nat.le_refl _)]
  · rw [Nat.min_eq_right (by omega), List.drop_eq_nil_of_le (Nat.le_refl _), List.drop_eq_nil_of_le (by omega)]
    exact List.take_nil
theorem cut_mid {α : Type} (xs : List α) (k m : Nat) (h : k ≤ m) : cut xs (some (k : Int)) (some (m : Int)) = (xs.drop k).take (m - k) := by
  unfold cut
  rw [HT.sIx_nat, HT.sIx_nat]
  by_cases h1 : k ≤ xs.length
  · rw [Nat.min_eq_left h1]
    by_cases h2 : m ≤ xs.length
    · rw [Nat.min_eq_left h2]
    · rw [Nat.min_eq_right (by omega), List.take_of_length_le (by rw [List.length_drop]; exact Nat.le_refl _), List.take_of_length_le (by rw [List.length_drop]; omega)]
  · rw [Nat.min_eq_right (show xs.length ≤ k by omega), List.drop_eq_nil_of_le (Nat.le_refl _), List.drop_eq_nil_of_le (show xs.length ≤ k by omega), List.take_nil, List.take_nil]
theorem cut_len {α : Type} (xs : List α) (lo hi : Option Int) : (cut xs lo hi).length ≤ xs.length := by
  unfold cut
  rw [List.length_take, List.length_drop]
  omega
theorem rp_cut {K : PySem.W.Frag} {H : Hp} {vs : List V} {ds : List PyData} (h : RpAll K H vs ds) (lo hi : Option Int) : RpAll K H (cutV vs lo hi) (cut ds lo hi) := by
  unfold cutV cut
  rw [RpAll.len h]
  exact RpAll.take _ (RpAll.drop _ h)
def tPo (K : PySem.W.Frag) (env : En) (o : Option Int) : TO := fun σ H Q => EnvE K H σ env ∧ ∀ H', Same H H' → Q o H'
section
variable {X : Cx} {env : En} {e : Expr} {lo hi : Option Expr} {i j : Option Int} {pos p2 : Pos}
abbrev EvP (X : Cx) (env : En) (e : Option Expr) (o : Option Int) : Prop := PO X e (tPo X.K env o)
theorem evp_none : EvP X env none none := ⟨fun pins s σ H Q I q => po_none.run pins s σ H Q I (q.2 H (Same.refl H))⟩
theorem evp_some {i : Int} (he : Ev X env e (.int i)) : EvP X env (some e) (some i) := ⟨fun pins s σ H Q I q => (po_some he).run pins s σ H Q I ⟨q.1, fun v H' s' d => by
  cases d
  exact ⟨i, rfl, q.2 H' s'⟩⟩⟩
theorem ev_slS {l : List Nat} (he : Ev X env e (.str (SX.S l))) (hl : EvP X env lo i) (hh : EvP X env hi j) (hz : l.length ≤ 1000000) : Ev X env (.Subscript e (.Slice lo hi none p2) pos) (.str (SX.S (cut l i j))) :=
  wkE (pe_slice sl_str he hl hh) fun σ H Q ⟨hE, q⟩ => ⟨hE, fun v H1 s1 d1 => by
    cases d1
    refine ⟨hE.mono s1, fun H2 s2 => ⟨hE.mono (s1.trans s2), fun H3 s3 => ⟨_, rfl, by rw [SX.S_len]; exact Nat.le_trans hz (by decide), ?_⟩⟩⟩
    have e1 : cutS (SX.S l) i j = SX.S (cut l i j) := by
      unfold cutS cut
      rw [SX.S_len]
    rw [e1]
    exact q _ H3 (s1.trans (s2.trans s3)) (.str _)⟩
theorem evl_slL {ds : List PyData} (he : Ev X env e (.list ds)) (hl : EvP X env lo i) (hh : EvP X env hi j) : EvL X env (.Subscript e (.Slice lo hi none p2) pos) (cut ds i j) :=
  wkE (pe_slice sl_list he hl hh) fun σ H Q ⟨hE, q⟩ => ⟨hE, fun v H1 s1 d1 => by
    cases d1 with
    | lst hs ha =>
      refine ⟨hE.mono s1, fun H2 s2 => ⟨hE.mono (s1.trans s2), fun H3 s3 => ⟨_, _, rfl, (s2.trans s3).seq hs, fun p hp => ?_⟩⟩⟩
      exact q p _ _ (s1.trans (s2.trans (s3.trans (same_new hp)))) ((s1.trans (s2.trans s3)).free hp) upd_same (rp_cut (ha.mono (s2.trans (s3.trans (same_new hp)))) i j)⟩

/-! a text backwards -/
theorem rev_S (l : List Nat) (u : Tok) : Txt.sliceBy (SX.S l) none none (-1, u) = SX.S l.reverse := by
  refine TL.ext_tl ?_
  show (Txt.sliceBy (SX.S l) none none (-1, u)).cps.toList = (SX.S l.reverse).cps.toList
  rw [step_rev_list]
  apply List.ext_getElem
  · simp [Str.length]
  · intro i h1 h2
    have hi : i < l.length := by simpa [Str.length] using h1
    have hi2 : l.length - 1 - i < l.length := by omega
    simp [Str.length, Array.getD, List.getElem_reverse, hi2]
theorem pe_revS {te : TE} {k : Nat} {p1 p2 p3 : Pos} (he : PE X e te) : PE X (.Subscript e (.Slice none none (some (.UnaryOp .USub (.Constant (.int 1) k p1) p2)) p3) pos) (fun σ H Q => te σ H fun x H1 => ∃ l : List Nat, x = .str (SX.S l) ∧ l.length ≤ 1000000 ∧ Q (.str (SX.S l.reverse)) H1) := by
  refine ⟨fun pins s σ H Q I h => ?_⟩
  refine Subscript_ (thn (he.run pins s σ H _ I h) fun v s1 ⟨x, H1, I1, r1, q1⟩ => ?_)
  obtain ⟨l, ex, hz, q⟩ := q1
  subst ex
  obtain ⟨t, rfl⟩ := r1
  have hst : PO X (some (.UnaryOp .USub (.Constant (.int 1) k p1) p2)) (tPart (tUn (rU fun i => .int (-i)) (tC (.int 1)))) := po_some (pe_un un_neg pe_int)
  refine wpAny_Slice (thn (po_none.run pins s1 σ H1 (fun o H2 => o = none ∧ H2 = H1) I1 ⟨rfl, rfl⟩) fun vl s2 ⟨lo, H2, I2, pl, el, e2⟩ => ?_)
  subst el e2
  refine thn (po_none.run pins s2 σ H2 (fun o H3 => o = none ∧ H3 = H2) I2 ⟨rfl, rfl⟩) fun vu s3 ⟨u, H3, I3, pu, eu, e3⟩ => ?_
  subst eu e3
  refine thn (hst.run pins s3 σ H3 (fun o H4 => o = some (-1) ∧ H4 = H3) I3 ⟨1, rfl, -1, rfl, rfl, rfl⟩) fun vs s4 ⟨o, H4, I4, ps, eo, e4⟩ => ?_
  subst eo e4
  cases pl
  cases pu
  cases ps with
  | int i tk =>
    have I5 : Inv X pins σ H4 { s4 with heap := s4.heap.push { cls := .type "slice", data := .fields #[.none, .none, .int (-1) tk] } } := I4.kept (t' := s4.toks) fun b ob q => Heap.get?_push_of_some _ q
    show wpAny (model X.prog X.w) X.A (subscriptTail e (.Slice none none (some (.UnaryOp .USub (.Constant (.int 1) k p1) p2)) p3) (.str (SX.S l) t) (.ref s4.heap.objs.size)) (EP X pins σ Q) X.xe { s4 with heap := s4.heap.push { cls := .type "slice", data := .fields #[.none, .none, .int (-1) tk] } }
    refine tail_any (ops := [.ref s4.heap.objs.size, .str (SX.S l) t]) (typeIs_str _ _ _) PySem.F.slot_str_getitem.lookup ?_ (by with_unfolding_all rfl)
    refine wpAny_getItem_str_slice (l := none) (u := none) (st := some (-1, tk)) ⟨_, Heap.get?_push_size _ rfl, rfl, rfl⟩ rfl (post_val_or_str ⟨Nat.le_trans (Txt.sliceBy_le (SX.S l) none none (-1, tk) (show (-1 : Int) ≠ 0 by decide)) (by rw [SX.S_len]; exact Nat.le_trans hz (by decide)), fun t' c => ?_⟩)
    have e1 := rev_S l tk
    unfold Txt.sliceBy at e1
    rw [e1]
    exact ⟨.str _, H4, I5.tok _, ⟨_, rfl⟩, q⟩
theorem ev_revS {l : List Nat} {k : Nat} {p1 p2 p3 : Pos} (he : Ev X env e (.str (SX.S l))) (hz : l.length ≤ 1000000) : Ev X env (.Subscript e (.Slice none none (some (.UnaryOp .USub (.Constant (.int 1) k p1) p2)) p3) pos) (.str (SX.S l.reverse)) :=
  wkE (pe_revS he) fun σ H Q ⟨hE, q⟩ => ⟨hE, fun v H1 s1 d1 => by
    cases d1
    exact ⟨l, rfl, hz, q _ H1 s1 (.str _)⟩⟩
theorem evl_revL {ds : List PyData} {k : Nat} {p1 p2 p3 : Pos} (he : Ev X env e (.list ds)) : EvL X env (.Subscript e (.Slice none none (some (.UnaryOp .USub (.Constant (.int 1) k p1) p2)) p3) pos) ds.reverse :=
  wkE (pe_revL he) fun σ H Q ⟨hE, q⟩ => ⟨hE, fun v H1 s1 d1 => by
    cases d1 with
    | lst hs ha => exact ⟨_, _, rfl, hs, fun p hp => q p _ _ (s1.trans (same_new hp)) (s1.free hp) upd_same (RpAll.reverse (ha.mono (same_new hp)))⟩⟩

/-! ### strip of signs -/
theorem takeWhile_all {p : Nat → Bool} : ∀ {l : List Nat}, (∀ c ∈ l, p c = true) → l.takeWhile p = l
  | [], _ => rfl
  | c :: l, h => by rw [List.takeWhile_cons, if_pos (h c (List.mem_cons_self ..)), takeWhile_all fun d m => h d (List.mem_cons_of_mem _ m)]
theorem strip_all {l y : List Nat} (h : ∀ c ∈ l, c ∈ y) : Txt.stripChars (SX.S l) (SX.S y) = SX.S [] := by
  have hp : ∀ c ∈ l, (SX.S y).cps.contains c = true := fun c hc => by
    have := h c hc
    simpa using this
  have h1 : stripLo (SX.S y).cps.contains true (SX.S l) = l.length := by
    unfold stripLo
    rw [if_pos rfl]
    show (l.toArray.toList.takeWhile _).length = _
    rw [List.toList_toArray, takeWhile_all hp]
  have h2 : stripHi (SX.S y).cps.contains true (SX.S l) l.length = l.length := by
    unfold stripHi
    rw [if_pos rfl, SX.S_len]
    show l.length - ((l.toArray.toList.drop l.length).reverse.takeWhile _).length = _
    rw [List.toList_toArray, List.drop_length]
    rfl
  unfold Txt.stripChars Txt.stripBy
  by_cases hs : stripSame (SX.S y).cps.contains true true (SX.S l) = true
  · rw [if_pos hs]
    unfold stripSame at hs
    rw [h1] at hs
    rw [Bool.and_eq_true] at hs
    have : l.length = 0 := by simpa using hs.1
    rw [List.eq_nil_of_length_eq_zero this]
  · rw [if_neg hs]
    unfold stripped
    rw [h1, h2]
    refine TL.ext_tl ?_
    show (l.toArray.extract l.length l.length).toList = []
    simp
theorem mt_strip1 {l y : List Nat} (h : ∀ c ∈ l, c ∈ y) (hz : l.length ≤ 1000000) : MtD X "str.strip" (.str (SX.S l)) [.str (SX.S y)] (.str (SX.S [])) := ⟨_, mt_stripChars, fun H v us Q d1 d2 q => by
  cases d1
  cases d2 with
  | cons a b =>
    cases b
    cases a
    refine ⟨_, _, rfl, rfl, by rw [SX.S_len]; exact Nat.le_trans hz (by decide), ?_⟩
    rw [strip_all h]
    exact q _ H (Same.refl H) (.str _)⟩

/-! ### {..}[k], the dict made for the look -/
theorem merge_new : ∀ (more acc : List (Key × V)), ((acc ++ more).map (·.1)).Nodup → mergeK acc more = acc ++ more
  | [], acc, _ => (List.append_nil acc).symm
  | p :: more, acc, h => by
    show mergeK (putK acc p.1 p.2) more = acc ++ p :: more
    have hn : valV acc p.1 = none := by
      cases q : valV acc p.1 with
      | none => rfl
      | some v =>
        rw [List.map_append, List.nodup_append] at h
        exact absurd rfl (h.2.2 p.1 (valV_in q) p.1 (by simp))
    rw [putK_new _ hn, merge_new more _ (by simpa using h)]
    simp
def PPd (X : Cx) (env : En) (pos : Pos) (keys : List (Option Expr)) (values : List Expr) (kd : List (Str × PyData)) : Prop := ∃ trs, PPs X pos keys values trs ∧ ∀ σ H Q, EnvE X.K H σ env → (∀ ps H', Same H H' → Paired (fun p q => p.1 = V.str q.1 ∧ Rp X.K H' p.2 q.2) ps kd → Q ps H') → tPairs trs σ H Q
theorem paired_mono {K : PySem.W.Frag} {H H' : Hp} (e : Same H H') : ∀ {ps : List (V × V)} {kd : List (Str × PyData)}, Paired (fun p q => p.1 = V.str q.1 ∧ Rp K H p.2 q.2) ps kd → Paired (fun p q => p.1 = V.str q.1 ∧ Rp K H' p.2 q.2) ps kd
  | _, _, .nil => .nil
  | _, _, .cons h t => .cons ⟨h.1, h.2.mono e⟩ (paired_mono e t)
theorem ppd_nil : PPd X env pos [] [] [] := ⟨[], pps_nil, fun σ H Q _ q => q [] H (Same.refl H) .nil⟩
theorem ppd_cons {k : Str} {j : Nat} {pk : Pos} {v : Expr} {ks : List (Option Expr)} {vs : List Expr} {d : PyData} {kd : List (Str × PyData)} (hv : Ev X env v d) (hr : PPd X env pos ks vs kd) : PPd X env pos (some (.Constant (.str k) j pk) :: ks) (v :: vs) ((k, d) :: kd) := by
  obtain ⟨trs, h, ht⟩ := hr
  refine ⟨_, pps_cons (ev_str (env := env)) hv h, fun σ H Q hE q => ⟨hE, fun u H1 s1 d1 => ⟨hE.mono s1, fun w H2 s2 d2 => ht σ H2 _ (hE.mono (s1.trans s2)) fun ps H3 s3 d3 => q _ H3 (s1.trans (s2.trans s3)) (.cons ⟨?_, d2.mono s3⟩ d3)⟩⟩⟩
  cases d1
  rfl
theorem disp_key {K : PySem.W.Frag} {H2 : Hp} {ps : List (V × V)} {kd : List (Str × PyData)} (h : Paired (fun p q => p.1 = V.str q.1 ∧ Rp K H2 p.2 q.2) ps kd) : ∃ kvs : List (Key × V), ps = kvs.map (fun kv => (kV kv.1, kv.2)) ∧ kvs.map (·.1) = kd.map (fun p => Sum.inr p.1) ∧ kvs.length = kd.length ∧ (∀ k d, kd.lookup k = some d → ∃ v, valV kvs (Sum.inr k) = some v ∧ Rp K H2 v d ∧ d ∈ kd.map (·.2)) := by
  induction h with
  | nil => exact ⟨[], rfl, rfl, rfl, fun k d z => by cases z⟩
  | @cons a b as bs h t ih =>
    obtain ⟨kvs, e1, e2, e3, e4⟩ := ih
    obtain ⟨a1, a2⟩ := a
    obtain ⟨b1, b2⟩ := b
    obtain ⟨h1, h2⟩ := h
    simp only at h1 h2
    refine ⟨(Sum.inr b1, a2) :: kvs, by rw [List.map_cons, ← e1, h1]; rfl, by rw [List.map_cons, e2]; rfl, by simp [e3], fun k d hk => ?_⟩
    rw [List.lookup_cons] at hk
    by_cases e : k = b1
    · subst e
      rw [beq_self_eq_true] at hk
      cases hk
      exact ⟨a2, valV_pos rfl, h2, by simp⟩
    · have : (k == b1) = false := by simpa using e
      rw [this] at hk
      obtain ⟨v, h5, h6, h7⟩ := e4 k d hk
      exact ⟨v, by rw [valV_neg (fun z => e (Sum.inr.inj z).symm)]; exact h5, h6, by rw [List.map_cons]; exact List.mem_cons_of_mem _ h7⟩

theorem ev_disp {keys : List (Option Expr)} {values : List Expr} {idx : Expr} {kd : List (Str × PyData)} {k : Str} {d : PyData} {pd : Pos} {j : Nat} (hr : Room j X.A) (h : PPd X env pd keys values kd) (hi : Ev X env idx (.str k)) (hd : kd.lookup k = some d) (hf : fzs (kd.map (·.2)) = true) (hn : (kd.map (·.1)).Nodup)
    (hall : keys.all (·.isSome) = true := by rfl) (hl : keys.length = values.length := by rfl) (h0 : keys ≠ [] := by exact fun z => by cases z) (h15 : keys.length ≤ 15 := by decide) (hkl : kd.length = keys.length := by rfl) (hs : NoSl idx := by exact fun _ _ => rfl) :
    Ev X env (.Subscript (.Dict keys values pd) idx pos) d := by
  obtain ⟨trs, hp, ht⟩ := h
  refine wkE (pe_dget (hu_of hr) (pe_disp hp hall hl h0 h15) hi hs) fun σ H Q ⟨hE, q⟩ p hpn => ?_
  refine ht σ _ _ (hE.mono (same_new hpn)) fun ps H2 s2 d2 => ⟨s2 _ _ upd_same, ?_⟩
  obtain ⟨kvs, e1, e2, e3, e4⟩ := disp_key d2
  refine ⟨kvs, e1, by rw [e3, hkl]; exact h15, ?_⟩
  have nd : (kvs.map (·.1)).Nodup := by
    rw [e2]
    have : (kd.map fun p => (Sum.inr p.1 : Key)) = (kd.map (·.1)).map Sum.inr := by rw [List.map_map]; rfl
    rw [this]
    exact List.Pairwise.map _ (fun a b hab => fun z => hab (Sum.inr.inj z)) hn
  have em : mergeK [] kvs = kvs := by
    have := merge_new kvs [] (by simpa using nd)
    simpa using this
  rw [em]
  have S3 : Same H (upd H2 p (.dK kvs)) := fun b o e => by
    rw [upd_ne (ne_of_none e hpn)]
    exact s2 _ _ (same_new hpn _ _ e)
  refine ⟨hE.mono S3, fun y H4 s4 d4 => ?_⟩
  cases d4
  obtain ⟨v, h5, h6, h7⟩ := e4 k d hd
  refine ⟨p, v, rfl, ?_, q v H4 (S3.trans s4) ?_⟩
  · have := DGet.k (H := H4) (a := p) (kvs := kvs) (k := Sum.inr k) (s4 _ _ upd_same)
    rw [h5] at this
    exact this
  · exact (dkeep (keep_upd (s2 _ _ upd_same) (fun xs z => by cases z)) _ _ (fzs_mem hf h7) h6).mono s4
end
/-! a display of texts' keys in a slot -/
def qFix (kd : List (Str × PyData)) : Fix where
  p K H v := ∃ l kvs, v = .ref l ∧ H l = some (.dK kvs) ∧ ∀ k d, kd.lookup k = some d → ∃ u, valV kvs (Sum.inr k) = some u ∧ Rp K H u d
  mono := fun ⟨l, kvs, e, h, g⟩ s => ⟨l, kvs, e, s _ _ h, fun k d z => let ⟨u, a, b⟩ := g k d z; ⟨u, a, b.mono s⟩⟩
section
variable {X : Cx} {H0 : Hp} {env : En} {D : Ends} {rest body : List Stmt} {pos : Pos}
theorem run_setQ (i : Nat) {x : Str} {keys : List (Option Expr)} {values : List Expr} {kd : List (Str × PyData)} {pd pos' : Pos} (hN : X.N.Nodup) (hi : X.N[i]? = some x) (hx : Loc X.env.scope x) (h : PPd X env pd keys values kd) (hf : noOwn env = true) (hfz : fzs (kd.map (·.2)) = true) (hn : (kd.map (·.1)).Nodup)
    (k : Run X H0 (env.set i (some (.g (qFix kd)))) rest D)
    (hall : keys.all (·.isSome) = true := by rfl) (hl : keys.length = values.length := by rfl) (h0 : keys ≠ [] := by exact fun z => by cases z) (h15 : keys.length ≤ 15 := by decide) (hkl : kd.length = keys.length := by rfl)
    (hs : swapsWith (.Dict keys values pd) (some (.Name x pos')) pos.line X.env = pure false := by rfl) (hf' : X.fn x = true ∨ X.env.scope.names.lookup x = some .local := by first | exact .inl rfl | exact .inr rfl) :
    Run X H0 env (.Assign [.Name x pos'] (.Dict keys values pd) pos :: rest) D := by
  obtain ⟨trs, hp, ht⟩ := h
  refine run_cons (ps_set hN hi hx (pe_disp hp hall hl h0 h15) hs hf') fun B σ H S p hpn => ?_
  refine ht σ _ _ (S.e.mono (same_new hpn)) fun ps H2 s2 d2 => ⟨s2 _ _ upd_same, ?_⟩
  obtain ⟨kvs, e1, e2, e3, e4⟩ := disp_key d2
  refine ⟨kvs, e1, by rw [e3, hkl]; exact h15, ?_⟩
  have nd : (kvs.map (·.1)).Nodup := by
    rw [e2]
    have : (kd.map fun p => (Sum.inr p.1 : Key)) = (kd.map (·.1)).map Sum.inr := by rw [List.map_map]; rfl
    rw [this]
    exact List.Pairwise.map _ (fun a b hab => fun z => hab (Sum.inr.inj z)) hn
  have em : mergeK [] kvs = kvs := by
    have := merge_new kvs [] (by simpa using nd)
    simpa using this
  rw [em]
  have S3 : Same H (upd H2 p (.dK kvs)) := fun b o e => by
    rw [upd_ne (ne_of_none e hpn)]
    exact s2 _ _ (same_new hpn _ _ e)
  refine k _ _ _ ((S.all hf S3).put (s := .g (qFix kd)) ⟨p, kvs, rfl, upd_same, fun k d z => ?_⟩ fun z => by cases z)
  obtain ⟨v, h5, h6, h7⟩ := e4 k d z
  exact ⟨v, h5, dkeep (keep_upd (s2 _ _ upd_same) (fun xs z => by cases z)) _ _ (fzs_mem hfz h7) h6⟩
theorem ev_qget {x : Str} {i j : Nat} {kd : List (Str × PyData)} {idx : Expr} {k : Str} {d : PyData} {px : Pos} (hr : Room j X.A) (hN : X.N[i]? = some x) (hv : Vis X.env.scope x) (he : env[i]? = some (some (.g (qFix kd)))) (hi : Ev X env idx (.str k)) (hd : kd.lookup k = some d)
    (hs : NoSl idx := by exact fun _ _ => rfl) (hb : (x == ("__debug__" : Str)) = false := by decide) (hcd : (x == ("__classdict__" : Str)) = false := by decide) : Ev X env (.Subscript (.Name x px) idx pos) d :=
  wkE (pe_dget (hu_of hr) (pe_var hN hv hb hcd) hi hs) fun σ H Q ⟨hE, q⟩ => by
    obtain ⟨v, h1, l, kvs, rfl, h3, h4⟩ := hE i _ he
    refine ⟨_, h1, hE, fun y H4 s4 d4 => ?_⟩
    cases d4
    obtain ⟨u, h5, h6⟩ := h4 k d hd
    refine ⟨l, u, rfl, ?_, q u H4 s4 (h6.mono s4)⟩
    have := DGet.k (H := H4) (a := l) (kvs := kvs) (k := Sum.inr k) (s4 _ _ h3)
    rw [h5] at this
    exact this
end
end Sw

/-! the plain mathematics: steps, places -/
namespace Sw
open PySem
inductive Dr where
  | n | w | s | e
  deriving DecidableEq
def Dr.code : Dr → Nat
  | .n => 110
  | .w => 119
  | .s => 115
  | .e => 101
def Dr.ix : Dr → Nat
  | .n => 0
  | .w => 1
  | .s => 2
  | .e => 3
def Dr.of : Nat → Dr
  | 0 => .n
  | 1 => .w
  | 2 => .s
  | _ => .e
def Dr.dx : Dr → Int
  | .e => 1
  | .w => -1
  | _ => 0
def Dr.dy : Dr → Int
  | .n => 1
  | .s => -1
  | _ => 0
abbrev Wk := List Dr
abbrev Pt := Int × Int
def cps (w : Wk) : List Nat := w.map Dr.code
/-- a walk as a text -/
def W (w : Wk) : PyData := .str (SX.S (cps w))
/-- one step's text -/
def L1 (d : Dr) : PyData := .str (SX.S [d.code])
def ptD (p : Pt) : PyData := .tuple [.int p.1, .int p.2]
def go (p : Pt) (d : Dr) : Pt := (p.1 + d.dx, p.2 + d.dy)
def walkFrom (p : Pt) : Wk → List Pt
  | [] => [p]
  | d :: r => p :: walkFrom (go p d) r
def pls0 (w : Wk) : List Pt := walkFrom (0, 0) w
def turnD (k : Int) (d : Dr) : Dr := Dr.of (((d.ix : Int) + k) % 4).toNat
theorem cps_len (w : Wk) : (cps w).length = w.length := by simp [cps]
theorem code_inj {a b : Dr} (h : a.code = b.code) : a = b := by cases a <;> cases b <;> first | rfl | cases h
theorem cps_inj {a b : Wk} (h : cps a = cps b) : a = b := by
  unfold cps at h
  exact List.map_inj_right (fun x y e => code_inj e) |>.mp h
def goAll (p : Pt) (w : Wk) : Pt := w.foldl go p
theorem walkFrom_len : ∀ (w : Wk) (p : Pt), (walkFrom p w).length = w.length + 1
  | [], _ => rfl
  | d :: r, p => by simp [walkFrom, walkFrom_len r]
theorem walkFrom_get : ∀ (w : Wk) (p : Pt) (i : Nat), i ≤ w.length → (walkFrom p w)[i]? = some (goAll p (w.take i))
  | [], p, i, h => by
    have : i = 0 := by simpa using h
    subst this
    rfl
  | d :: r, p, 0, h => rfl
  | d :: r, p, i + 1, h => by
    show (walkFrom (go p d) r)[i]? = _
    rw [walkFrom_get r (go p d) i (by simpa using h)]
    rfl
end Sw

/-! names by search, written texts -/
namespace Sw
open PySem PySem.Spec PyProof.Rows L2
def nmIx (x : Str) : List Str → Nat → Option Nat
  | [], _ => none
  | y :: r, n => if (y == x) = true then some n else nmIx x r (n + 1)
theorem nmIx_ok {x : Str} : ∀ {N : List Str} {k i : Nat}, nmIx x N k = some i → k ≤ i ∧ N[i - k]? = some x
  | [], k, i, h => by cases h
  | y :: r, k, i, h => by
    unfold nmIx at h
    split at h
    · cases h
      rename_i e
      have : y = x := by simpa using e
      subst this
      simp
    · have := nmIx_ok h
      refine ⟨by omega, ?_⟩
      have e : i - k = (i - (k + 1)) + 1 := by omega
      rw [e]
      simpa using this.2
theorem nm0 {x : Str} {N : List Str} {i : Nat} (h : nmIx x N 0 = some i) : N[i]? = some x := (nmIx_ok h).2
section
variable {X : Cx} {H0 : Hp} {env : En} {D : Ends} {rest body : List Stmt} {pos : Pos}
theorem ev_nm {x : Str} {i : Nat} {s : SV} {d : PyData} (hN : nmIx x X.N 0 = some i) (hv : Vis X.env.scope x) (he : env[i]? = some (some s)) (hd : svd s = some d) (hb : (x == ("__debug__" : Str)) = false := by decide)
    (hcd : (x == ("__classdict__" : Str)) = false := by decide) : Ev X env (.Name x pos) d := ev_name i (nm0 hN) hv he hd hb hcd
theorem ev_strS {x : Str} {l : List Nat} {j} (h : x = SX.S l) : Ev X env (.Constant (.str x) j pos) (.str (SX.S l)) := h ▸ ev_str
end
section
variable {X : Cx} {H0 : Hp} {env : En} {D : Ends} {rest body : List Stmt} {pos : Pos}
theorem rs_F {i : Nat} {x : Str} {e : Expr} {d : PyData} {pos' : Pos} (hi : nmIx x X.N 0 = some i) (hN : X.N.Nodup) (hx : Loc X.env.scope x) (he : Ev X env e d) (hf : fz d = true) (k : Run X H0 (env.set i (some (.d d))) rest D)
    (hs : swapsWith e (some (.Name x pos')) pos.line X.env = pure false := by rfl) (hf' : X.fn x = true ∨ X.env.scope.names.lookup x = some .local := by first | exact .inl rfl | exact .inr rfl) :
    Run X H0 env (.Assign [.Name x pos'] e pos :: rest) D := run_setF i hN (nm0 hi) hx he hf k hs hf'
theorem rs_B {i : Nat} {x : Str} {e : Expr} {d : PyData} {pos' : Pos} (hi : nmIx x X.N 0 = some i) (hN : X.N.Nodup) (hx : Loc X.env.scope x) (he : Ev X env e d) (hf : noOwn env = true) (k : Run X H0 (env.set i (some (.d d))) rest D)
    (hs : swapsWith e (some (.Name x pos')) pos.line X.env = pure false := by rfl) (hf' : X.fn x = true ∨ X.env.scope.names.lookup x = some .local := by first | exact .inl rfl | exact .inr rfl) :
    Run X H0 env (.Assign [.Name x pos'] e pos :: rest) D := run_setB i hN (nm0 hi) hx he hf k hs hf'
theorem rs_L {i : Nat} {x : Str} {e : Expr} {ds : List PyData} {pos' : Pos} (hi : nmIx x X.N 0 = some i) (hN : X.N.Nodup) (hx : Loc X.env.scope x) (he : EvL X env e ds) (hf : fzs ds = true) (k : Run X H0 (env.set i (some (.l ds))) rest D)
    (hs : swapsWith e (some (.Name x pos')) pos.line X.env = pure false := by rfl) (hf' : X.fn x = true ∨ X.env.scope.names.lookup x = some .local := by first | exact .inl rfl | exact .inr rfl) :
    Run X H0 env (.Assign [.Name x pos'] e pos :: rest) D := run_setL i hN (nm0 hi) hx he hf k hs hf'
theorem rs_M {i : Nat} {x : Str} {pos' pos2 : Pos} (hi : nmIx x X.N 0 = some i) (hN : X.N.Nodup) (hx : Loc X.env.scope x) (k : Run X H0 (env.set i (some (.m []))) rest D)
    (hs : swapsWith (.Dict [] [] pos2) (some (.Name x pos')) pos.line X.env = pure false := by rfl) (hf' : X.fn x = true ∨ X.env.scope.names.lookup x = some .local := by first | exact .inl rfl | exact .inr rfl) :
    Run X H0 env (.Assign [.Name x pos'] (.Dict [] [] pos2) pos :: rest) D := run_setM i hN (nm0 hi) hx k hs hf'
theorem rs_app {i : Nat} {x : Str} {e : Expr} {d : PyData} {ds : List PyData} {p apos cpos : Pos} (hi : nmIx x X.N 0 = some i) (hv : Vis X.env.scope x) (he' : env[i]? = some (some (.l ds))) (he : Ev X env e d) (hf : fz d = true) (hz : ds.length ≤ 1000000) (k : Run X H0 (env.set i (some (.l (ds ++ [d])))) rest D)
    (hd : (x == ("__debug__" : Str)) = false := by decide) (hcd : (x == ("__classdict__" : Str)) = false := by decide)
    (hs : swapsWith (.Call (.Attribute (.Name x p) "append" apos) [e] [] cpos) none pos.line X.env = pure false := by rfl)
    (hse : starEach [e] X.env = (false, eval e X.env) :: starEach [] X.env := by rfl)
    (hbase : attributeBase (.Name x p) "append" X.env (eval (.Name x p) X.env) = eval (.Name x p) X.env := by rfl)
    (hfew : ((backTo cpos (starEach [e] X.env)).all (fun x => !x.1) && (backToKw cpos (keywordEach [] X.env)).all (fun x => x.1.isSome)
      && decide ([e].length + ([] : List Keyword).length + (if ([] : List Keyword).isEmpty then 0 else 1) < 30)) = true := by rfl)
    (hline : (apos.endLine == cpos.line) = true := by rfl) (hplain : (backTo cpos (starEach [] X.env)).any (·.1) = false := by rfl) (no : noObj env = true := by rfl) :
    Run X H0 env (.Expr (.Call (.Attribute (.Name x p) "append" apos) [e] [] cpos) pos :: rest) D := run_append i (nm0 hi) hv he' he hf hz k hd hcd hs hse hbase hfew hline hplain no
theorem rs_pop {i : Nat} {x : Str} {ds : List PyData} {p apos cpos : Pos} (hi : nmIx x X.N 0 = some i) (hv : Vis X.env.scope x) (he : env[i]? = some (some (.l ds))) (hz : ds ≠ []) (k : Run X H0 (env.set i (some (.l ds.dropLast))) rest D)
    (hd : (x == ("__debug__" : Str)) = false := by decide) (hcd : (x == ("__classdict__" : Str)) = false := by decide)
    (hs : swapsWith (.Call (.Attribute (.Name x p) "pop" apos) [] [] cpos) none pos.line X.env = pure false := by rfl)
    (hbase : attributeBase (.Name x p) "pop" X.env (eval (.Name x p) X.env) = eval (.Name x p) X.env := by rfl)
    (hline : (apos.endLine == cpos.line) = true := by rfl) (no : noObj env = true := by rfl) :
    Run X H0 env (.Expr (.Call (.Attribute (.Name x p) "pop" apos) [] [] cpos) pos :: rest) D := run_pop i (nm0 hi) hv he hz k hd hcd hs hbase hline no
theorem rs_un2 {i j : Nat} {x y : Str} {px py pt : Pos} {kt : Nat} {e : Expr} {a b : PyData} (hi : nmIx x X.N 0 = some i) (hj : nmIx y X.N 0 = some j) (hN : X.N.Nodup) (hx : Loc X.env.scope x) (hy : Loc X.env.scope y) (he : Ev X env e (.tuple [a, b])) (hf : fz (.tuple [a, b]) = true)
    (k : Run X H0 ((env.set i (some (.d a))).set j (some (.d b))) rest D) (hc : X.calm = true := by rfl)
    (hs : swapsWithSole [.Tuple [.Name x px, .Name y py] kt pt] e pos.line X.env = pure false := by rfl) (hw : swappedStores [.Tuple [.Name x px, .Name y py] kt pt] e X.env = pure none := by rfl)
    (hfx : X.fn x = true ∨ X.env.scope.names.lookup x = some .local := by first | exact .inl rfl | exact .inr rfl) (hfy : X.fn y = true ∨ X.env.scope.names.lookup y = some .local := by first | exact .inl rfl | exact .inr rfl)
    (h1 : (assignEach [.Tuple [.Name x px, .Name y py] kt pt] X.env).map (·.2) = [assign (.Tuple [.Name x px, .Name y py] kt pt) X.env] := by rfl)
    (h2 : (assignEach [.Name x px, .Name y py] X.env).map (·.2) = assign (.Name x px) X.env :: (assignEach [.Name y py] X.env).map (·.2) := by rfl)
    (h3 : (assignEach [.Name y py] X.env).map (·.2) = assign (.Name y py) X.env :: (assignEach [] X.env).map (·.2) := by rfl)
    (hn : (assignEach [.Name x px, .Name y py] X.env).length = 2 := by rfl) (hst : (assignEach [.Name x px, .Name y py] X.env).findIdx? (·.1) = none := by rfl) :
    Run X H0 env (.Assign [.Tuple [.Name x px, .Name y py] kt pt] e pos :: rest) D := run_un2 i j hc hN (nm0 hi) (nm0 hj) hx hy he hf k hs hw hfx hfy h1 h2 h3 hn hst
/-- a for over a name's items, a target of one name -/
theorem rs_for {x : Str} {px : Pos} {iter : Expr} {n : Nat} {item : Nat → PyData} {j : Nat} (E : Nat → En) (hj : nmIx x X.N 0 = some j) (hN : X.N.Nodup) (hx : Loc X.env.scope x) (hp : PassesOwn (model X.prog X.w) X.A X.env X.xe) (hI : ItS X H0 env (.Name x px) iter n item)
    (h0 : Le (E 0) env) (hit : ∀ i, i < n → fz (item i) = true)
    (turn : ∀ (i : Nat) (Hl : Hp) (D' : Ends), i < n → Same H0 Hl → D'.nx = NX X Hl (E (i + 1)) → D'.rt = D.rt → Run X Hl ((E i).set j (some (.d (item i)))) body D')
    (done : Run X H0 (E n) rest D) (hc : X.calm = true := by rfl) (hfo : ∀ x, foldedSetIterable iter X.env x = pure x := by intro _; rfl)
    (hf' : X.fn x = true ∨ X.env.scope.names.lookup x = some .local := by first | exact .inl rfl | exact .inr rfl) : Run X H0 env (.For (.Name x px) iter body [] pos :: rest) D :=
  run_for E hp hc hI (pg_name hN (nm0 hj) hx hf') (gs_name j) h0 (fun i hi => ⟨hit i hi, trivial⟩) turn done hfo
theorem rs_retN {i : Nat} {x : Str} {ds : List PyData} {px : Pos} (hi : nmIx x X.N 0 = some i) (hv : Vis X.env.scope x) (he : env[i]? = some (some (.l ds))) (h : RtL X.K H0 D ds) (hd : (x == ("__debug__" : Str)) = false := by decide) (hcd : (x == ("__classdict__" : Str)) = false := by decide) :
    Run X H0 env (.Return (some (.Name x px)) pos :: rest) D := run_retN i (nm0 hi) hv he h hd hcd
/-- [elt for x in iter] -/
theorem el_comp {x : Str} {px : Pos} {iter elt : Expr} {scope sc : Scope} {N ps : List Str} {n : Nat} {item : Nat → PyData} {j : Nat} (S : FnScope N ps sc) (v : Nat → PyData) (hj : nmIx x X.N 0 = some j) (hN : X.N.Nodup) (hok : blkC N sc scope [(x, j)] = true) (hI : ItE X env (.Name x px) iter n item)
    (hg : ∀ (s : Shared) (H : Hp) (C : Addr) (cl : List (Str × Addr)) (fp : List Addr), Loc (X.blk s H scope (compEnvC scope cl C X.env) fp).env.scope x ∧ ((X.blk s H scope (compEnvC scope cl C X.env) fp).fn x = true ∨ (X.blk s H scope (compEnvC scope cl C X.env) fp).env.scope.names.lookup x = some .local))
    (hfz : ∀ i, i < n → fz (v i) = true) (hlen : n ≤ 1000000)
    (he : ∀ (s : Shared) (H : Hp) (C : Addr) (cl : List (Str × Addr)) (fp : List Addr) i, i < n → Ev (X.blk s H scope (compEnvC scope cl C X.env) fp) ((env.set j none).set j (some (.d (item i)))) elt (v i))
    (hc : X.calm = true := by rfl) (hel : X.N.length = env.length := by rfl) (hfo : ∀ x, foldedSetIterable iter X.env x = pure x := by intro _; rfl) (hnn : X.N = N := by rfl) (hss : X.env.scope = sc := by rfl) :
    EvL X env (.ListComp elt [⟨.Name x px, iter, [], 0⟩] scope pos) ((List.range n).map v) :=
  evl_comp [(x, j)] v hc hN (hnn ▸ hss ▸ blkOk_by hok) hI (fun s H C cl fp => pg_name hN (nm0 hj) (hg s H C cl fp).1 (hg s H C cl fp).2) (ge_name j (by simp)) (fun _ _ => trivial) hfz hlen he hel hfo
end
/-! ### a def as the top has left it -/
structure Df (K : PySem.W.Frag) (mg : Str → Option Value) (x : Str) (st : Stmt) (ps : List Str) : Prop where
  ex : ∃ f fd, Fun K x x st f fd ∧ mg x = some (.ref f) ∧ Binds K fd ps []
section
variable {P : Program} {w : World} {K : PySem.W.Frag} {mg : Str → Option Value} {base : Heap}
theorem cdD {x : Str} {st : Stmt} {N ps : List Str} {k : Nat} {R : List PyData → PyData → Prop} (F : Df K mg x st ps) (S : FnScope N ps (defScope st)) (hl : ∀ ds r, R ds r → ds.length = ps.length)
    (body : ∀ (f : Addr) (cdv : Value) (A : Around) (outer : List Env) (s : Shared) (H : Hp) (E : XK), Room k (CxD P w K mg base N x st f cdv A outer s H E).A → (CxD P w K mg base N x st f cdv A outer s H E).N.Nodup → ∀ (ds : List PyData) (r : PyData) (D : Ends), R ds r → RtD K H D r → (r = .none → ∀ σ H', Same H H' → D.nx σ H') →
      Run (CxD P w K mg base N x st f cdv A outer s H E) H (env0 N.length ds) (defBody st) D) : Cd P w K mg base (k + 1) x (spD K R) := by
  obtain ⟨f, fd, hF, hm, hb⟩ := F.ex
  exact ⟨f, fd, ps, fnD hF S hl (fun cdv A outer s H E hr => body f cdv A outer s H E hr S.nd), hm, hF.kp, hb⟩
theorem cdL {x : Str} {st : Stmt} {N ps : List Str} {k : Nat} {R : List PyData → List PyData → Prop} (F : Df K mg x st ps) (S : FnScope N ps (defScope st)) (hl : ∀ ds r, R ds r → ds.length = ps.length)
    (body : ∀ (f : Addr) (cdv : Value) (A : Around) (outer : List Env) (s : Shared) (H : Hp) (E : XK), Room k (CxD P w K mg base N x st f cdv A outer s H E).A → (CxD P w K mg base N x st f cdv A outer s H E).N.Nodup → ∀ (ds : List PyData) (r : List PyData) (D : Ends), R ds r → RtL K H D r →
      Run (CxD P w K mg base N x st f cdv A outer s H E) H (env0 N.length ds) (defBody st) D) : Cd P w K mg base (k + 1) x (spL K R) := by
  obtain ⟨f, fd, hF, hm, hb⟩ := F.ex
  exact ⟨f, fd, ps, fnL hF S hl (fun cdv A outer s H E hr => body f cdv A outer s H E hr S.nd), hm, hF.kp, hb⟩
/-- the law itself, its function object named -/
theorem fnD1 {x : Str} {st : Stmt} {N ps : List Str} {k : Nat} {R : List PyData → PyData → Prop} {f : Addr} {fd : FuncData} (F : Fun K x x st f fd) (S : FnScope N ps (defScope st)) (hl : ∀ ds r, R ds r → ds.length = ps.length)
    (body : ∀ (f : Addr) (cdv : Value) (A : Around) (outer : List Env) (s : Shared) (H : Hp) (E : XK), Room k (CxD P w K mg base N x st f cdv A outer s H E).A → (CxD P w K mg base N x st f cdv A outer s H E).N.Nodup → ∀ (ds : List PyData) (r : PyData) (D : Ends), R ds r → RtD K H D r → (r = .none → ∀ σ H', Same H H' → D.nx σ H') →
      Run (CxD P w K mg base N x st f cdv A outer s H E) H (env0 N.length ds) (defBody st) D) : FnOk P w K mg base CX0 (k + 1) f fd ps (spD K R) :=
  fnD F S hl (fun cdv A outer s H E hr => body f cdv A outer s H E hr S.nd)
/-- a def's end without return -/
theorem run_fall {X : Cx} {H0 : Hp} {env : En} {D : Ends} (hN : ∀ σ H', Same H0 H' → D.nx σ H') : Run X H0 env [] D := run_end fun B σ H S => hN σ H (S.e0.trans S.e1)
end
/-- what every law promises -/
def RLaw : List PyData → PyData → Prop := fun ds r => ∃ ns : List Int, ns.length ≤ 63 ∧ ds = [.list (ns.map PyData.int)] ∧ r = .bool true
theorem spLaw_of {K : PySem.W.Frag} {H : Hp} {a : Addr} {ns : List Int} (hl : ns.length ≤ 63) (hS : SqL K H a (ns.map V.int)) : spD K RLaw [.ref a] H (fun v _ => v = .bl true) fun _ _ _ => False :=
  ⟨_, _, .cons (.lst hS (RpAll.ints ns)) .nil, ⟨ns, hl, rfl, rfl⟩, fun v H' _ r => by cases r; rfl⟩
/-- the names of builtins are the builtins' own -/
structure Blt (mg : Str → Option Value) : Prop where
  isinstance : mg "isinstance" = none
  int : mg "int" = none
  bool : mg "bool" = none
  str : mg "str" = none
  list : mg "list" = none
  tuple : mg "tuple" = none
  range : mg "range" = none
  len : mg "len" = none
  sum : mg "sum" = none
  abs : mg "abs" = none
  min : mg "min" = none
  all : mg "all" = none
  any : mg "any" = none
  sorted : mg "sorted" = none
  set : mg "set" = none
  enumerate : mg "enumerate" = none
  zip : mg "zip" = none
  reversed : mg "reversed" = none
theorem b_int : bootBuiltins "int" = some (.type "int") := by decide +kernel
theorem b_bool : bootBuiltins "bool" = some (.type "bool") := by decide +kernel
theorem b_str : bootBuiltins "str" = some (.type "str") := by decide +kernel
theorem b_list : bootBuiltins "list" = some (.type "list") := by decide +kernel
theorem b_tuple : bootBuiltins "tuple" = some (.type "tuple") := by decide +kernel
theorem b_range : bootBuiltins "range" = some (.type "range") := by decide +kernel
theorem b_set : bootBuiltins "set" = some (.type "set") := by decide +kernel
theorem b_enumerate : bootBuiltins "enumerate" = some (.type "enumerate") := by decide +kernel
theorem b_zip : bootBuiltins "zip" = some (.type "zip") := by decide +kernel
theorem b_reversed : bootBuiltins "reversed" = some (.type "reversed") := by decide +kernel
theorem b_isinstance : bootBuiltins "isinstance" = some (.builtin "isinstance") := by decide +kernel
theorem b_len : bootBuiltins "len" = some (.builtin "len") := by decide +kernel
theorem b_sum : bootBuiltins "sum" = some (.builtin "sum") := by decide +kernel
theorem b_abs : bootBuiltins "abs" = some (.builtin "abs") := by decide +kernel
theorem b_min : bootBuiltins "min" = some (.builtin "min") := by decide +kernel
theorem b_all : bootBuiltins "all" = some (.builtin "all") := by decide +kernel
theorem b_any : bootBuiltins "any" = some (.builtin "any") := by decide +kernel
theorem b_sorted : bootBuiltins "sorted" = some (.builtin "sorted") := by decide +kernel
theorem k_int_int : kitB "int" "int" = some true := by decide +kernel
theorem k_int_bool : kitB "int" "bool" = some false := by decide +kernel
theorem k_int_str : kitB "int" "str" = some false := by decide +kernel
theorem k_int_list : kitB "int" "list" = some false := by decide +kernel
theorem k_int_tuple : kitB "int" "tuple" = some false := by decide +kernel
theorem k_bool_int : kitB "bool" "int" = some true := by decide +kernel
theorem k_bool_bool : kitB "bool" "bool" = some true := by decide +kernel
theorem k_bool_str : kitB "bool" "str" = some false := by decide +kernel
theorem k_bool_list : kitB "bool" "list" = some false := by decide +kernel
theorem k_bool_tuple : kitB "bool" "tuple" = some false := by decide +kernel
theorem k_str_int : kitB "str" "int" = some false := by decide +kernel
theorem k_str_bool : kitB "str" "bool" = some false := by decide +kernel
theorem k_str_str : kitB "str" "str" = some true := by decide +kernel
theorem k_str_list : kitB "str" "list" = some false := by decide +kernel
theorem k_str_tuple : kitB "str" "tuple" = some false := by decide +kernel
theorem k_list_int : kitB "list" "int" = some false := by decide +kernel
theorem k_list_bool : kitB "list" "bool" = some false := by decide +kernel
theorem k_list_str : kitB "list" "str" = some false := by decide +kernel
theorem k_list_list : kitB "list" "list" = some true := by decide +kernel
theorem k_list_tuple : kitB "list" "tuple" = some false := by decide +kernel
theorem k_tuple_int : kitB "tuple" "int" = some false := by decide +kernel
theorem k_tuple_bool : kitB "tuple" "bool" = some false := by decide +kernel
theorem k_tuple_str : kitB "tuple" "str" = some false := by decide +kernel
theorem k_tuple_list : kitB "tuple" "list" = some false := by decide +kernel
theorem k_tuple_tuple : kitB "tuple" "tuple" = some true := by decide +kernel
theorem k_NoneType_int : kitB "NoneType" "int" = some false := by decide +kernel
theorem k_NoneType_bool : kitB "NoneType" "bool" = some false := by decide +kernel
theorem k_NoneType_str : kitB "NoneType" "str" = some false := by decide +kernel
theorem k_NoneType_list : kitB "NoneType" "list" = some false := by decide +kernel
theorem k_NoneType_tuple : kitB "NoneType" "tuple" = some false := by decide +kernel
theorem ty_int {i : Int} : tyD (.int i) = "int" := rfl
theorem ty_bool {i : Bool} : tyD (.bool i) = "bool" := rfl
theorem ty_str {i : Str} : tyD (.str i) = "str" := rfl
theorem ty_none : tyD .none = "NoneType" := rfl
theorem ty_list {i : List PyData} : tyD (.list i) = "list" := rfl
theorem ty_tuple {i : List PyData} : tyD (.tuple i) = "tuple" := rfl
theorem ty_W {i : Wk} : tyD (W i) = "str" := rfl
theorem ty_ptD {i : Pt} : tyD (ptD i) = "tuple" := rfl
theorem s_ : Str.ofString "" = SX.S [] := rfl
theorem s_n : Str.ofString "n" = SX.S [110] := rfl
theorem s_w : Str.ofString "w" = SX.S [119] := rfl
theorem s_s : Str.ofString "s" = SX.S [115] := rfl
theorem s_e : Str.ofString "e" = SX.S [101] := rfl
theorem s_ns : Str.ofString "ns" = SX.S [110, 115] := rfl
theorem s_nwse : Str.ofString "nwse" = SX.S [110, 119, 115, 101] := rfl
theorem s_nesw : Str.ofString "nesw" = SX.S [110, 101, 115, 119] := rfl
theorem ofT {p : Prop} [Decidable p] (h : decide p = true) : p := of_decide_eq_true h
theorem ofF {p : Prop} [Decidable p] (h : decide p = false) : ¬ p := of_decide_eq_false h
end Sw

/-! walks as texts: rules for them -/
namespace Sw
open PySem PySem.Spec PyProof.Rows L2
theorem map_getD {α β : Type} (w : List α) (d : α) (g : α → β) : (List.range w.length).map (fun i => g (w.getD i d)) = w.map g := by
  apply List.ext_getElem
  · simp
  · intro i h1 h2
    have hi : i < w.length := by simpa using h1
    simp [List.getD_eq_getElem?_getD, hi]
theorem cps_getD (w : Wk) (i : Nat) (h : i < w.length) : (cps w).getD i 0 = (w.getD i .n).code := by
  unfold cps
  simp [List.getD_eq_getElem?_getD, h]
theorem flat_cps (w : Wk) : (w.map fun d => [d.code]).flatten = cps w := by
  induction w with
  | nil => rfl
  | cons d r ih => simp only [List.map_cons, List.flatten_cons, ih]; rfl
section
variable {X : Cx} {H0 : Hp} {env : En} {tg e : Expr} {pos : Pos}
theorem ItS.congr {iter : Expr} {n : Nat} {item item' : Nat → PyData} (h : ItS X H0 env tg iter n item) (he : ∀ i, i < n → item i = item' i) : ItS X H0 env tg iter n item' := by
  obtain ⟨wi, hi, hw⟩ := h
  exact ⟨wi, hi, fun B σ H R S q => hw B σ H R S fun J H1 Bi G Yv s1 S1 W hG hY => q J H1 Bi G Yv s1 S1 W hG fun i H' x H'' hlt sB hy => by
    rw [← he i hlt]
    exact hY i H' x H'' hlt sB hy⟩
theorem ItE.congr {iter : Expr} {n : Nat} {item item' : Nat → PyData} (h : ItE X env tg iter n item) (he : ∀ i, i < n → item i = item' i) : ItE X env tg iter n item' := by
  obtain ⟨wi, hi, hw⟩ := h
  exact ⟨wi, hi, fun σ H R S q => hw σ H R S fun J H1 G Yv s1 W hG hY => q J H1 G Yv s1 W hG fun i H' x H'' hlt sB hy => by
    rw [← he i hlt]
    exact hY i H' x H'' hlt sB hy⟩
theorem its_W {w : Wk} (he : Ev X env e (W w)) : ItS X H0 env tg e w.length (fun i => L1 (w.getD i .n)) := by
  have h := its_str (H0 := H0) (tg := tg) he
  rw [cps_len] at h
  exact h.congr fun i hi => by rw [cps_getD w i hi]; rfl
theorem ite_W {w : Wk} (he : Ev X env e (W w)) : ItE X env tg e w.length (fun i => L1 (w.getD i .n)) := by
  have h := ite_str (tg := tg) he
  rw [cps_len] at h
  exact h.congr fun i hi => by rw [cps_getD w i hi]; rfl
theorem ev_joinW {j : Nat} {apos p : Pos} {w : Wk} (he : Ev X env e (.list (w.map L1))) (h : w.length ≤ 1000000)
    (hs : starEach [e] X.env = [(false, eval e X.env)] := by rfl) (hline : (apos.endLine == pos.line) = true := by rfl) : Ev X env (.Call (.Attribute (.Constant (.str "") j p) "join" apos) [e] [] pos) (W w) := by
  have e1 : w.map L1 = (w.map fun d => [d.code]).map fun l => PyData.str (SX.S l) := by rw [List.map_map]; rfl
  rw [e1] at he
  have := ev_join (pos := pos) (apos := apos) (j := j) (p := p) he (by rw [flat_cps, cps_len]; exact h) hs hline
  rw [flat_cps] at this
  exact this
theorem ev_lenW {w : Wk} (h : w.length ≤ 1000000) : CallD X (.builtin "len") [W w] (.int (w.length : Int)) := by
  have := call_lenS (X := X) (l := cps w) (by rw [cps_len]; exact h)
  rwa [cps_len] at this
theorem bin_addW {a b : Wk} (h : a.length + b.length ≤ 1000000) : Bin X .Add (W a) (W b) (W (a ++ b)) := by
  have := bin_addS (X := X) (a := cps a) (b := cps b) (by rw [cps_len, cps_len]; exact h)
  unfold W cps at *
  rwa [← List.map_append] at this
theorem cmp_eqW {a b : Wk} : Cmp X .Eq (W a) (W b) (decide (a = b)) := by
  have := cmp_eqS (X := X) (a := cps a) (b := cps b)
  have e : decide (cps a = cps b) = decide (a = b) := by
    by_cases h : a = b
    · subst h; simp
    · rw [decide_eq_false h, decide_eq_false (fun z => h (cps_inj z))]
  rwa [e] at this
theorem cmp_neW {a b : Wk} : Cmp X .NotEq (W a) (W b) (!decide (a = b)) := by
  have := cmp_neS (X := X) (a := cps a) (b := cps b)
  have e : decide (cps a = cps b) = decide (a = b) := by
    by_cases h : a = b
    · subst h; simp
    · rw [decide_eq_false h, decide_eq_false (fun z => h (cps_inj z))]
  rwa [e] at this
theorem cmp_eqL {a b : Dr} : Cmp X .Eq (L1 a) (L1 b) (decide (a = b)) := by
  have := cmp_eqW (X := X) (a := [a]) (b := [b])
  have e : decide ([a] = [b]) = decide (a = b) := by cases a <;> cases b <;> rfl
  rwa [e] at this
theorem cmp_neL {a b : Dr} : Cmp X .NotEq (L1 a) (L1 b) (!decide (a = b)) := by
  have := cmp_neW (X := X) (a := [a]) (b := [b])
  have e : decide ([a] = [b]) = decide (a = b) := by cases a <;> cases b <;> rfl
  rwa [e] at this
theorem cut_map {α β : Type} (f : α → β) (xs : List α) (lo hi : Option Int) : cut (xs.map f) lo hi = (cut xs lo hi).map f := by
  unfold cut
  rw [List.length_map, List.map_take, List.map_drop]
theorem ev_slW {w : Wk} {lo hi : Option Expr} {i j : Option Int} {p2 : Pos} (he : Ev X env e (W w)) (hl : EvP X env lo i) (hh : EvP X env hi j) (hz : w.length ≤ 1000000) : Ev X env (.Subscript e (.Slice lo hi none p2) pos) (W (cut w i j)) := by
  have := ev_slS (pos := pos) (p2 := p2) he hl hh (by rw [cps_len]; exact hz)
  unfold W cps at *
  rwa [cut_map] at this
theorem ev_revW {w : Wk} {k : Nat} {p1 p2 p3 : Pos} (he : Ev X env e (W w)) (hz : w.length ≤ 1000000) : Ev X env (.Subscript e (.Slice none none (some (.UnaryOp .USub (.Constant (.int 1) k p1) p2)) p3) pos) (W w.reverse) := by
  have := ev_revS (pos := pos) (p1 := p1) (p2 := p2) (p3 := p3) (k := k) he (by rw [cps_len]; exact hz)
  unfold W cps at *
  rwa [← List.map_reverse] at this
theorem ix_W {w : Wk} {i : Int} {d : Dr} (h : atI w i = some d) (hz : w.length ≤ 1000000) : Ix X (W w) (.int i) (L1 d) := by
  refine ix_S (l := cps w) (c := d.code) ?_ (by rw [cps_len]; exact hz)
  unfold atI at h ⊢
  rw [cps_len]
  cases q : ixN w.length i with
  | none => rw [q] at h; cases h
  | some j =>
    rw [q] at h
    show (cps w)[j]? = _
    unfold cps
    rw [List.getElem?_map, show w[j]? = some d from h]
    rfl
theorem mt_stripW {w : Wk} (hz : w.length ≤ 1000000) : MtD X "str.strip" (W w) [.str (SX.S [110, 119, 115, 101])] (.str (SX.S [])) := by
  refine mt_strip1 (fun c hc => ?_) (by rw [cps_len]; exact hz)
  obtain ⟨d, _, rfl⟩ := List.mem_map.mp hc
  cases d <;> decide
def cnt (c : Dr) (w : Wk) : Nat := (w.filter (· = c)).length
theorem mt_countW {w : Wk} {c : Dr} : MtD X "str.count" (W w) [L1 c] (.int (cnt c w : Nat)) := by
  have := mt_count1 (X := X) (l := cps w) (c := c.code)
  have e : ((cps w).filter (· == c.code)).length = cnt c w := by
    unfold cps cnt
    rw [List.filter_map, List.length_map]
    congr 1
    apply List.filter_congr
    intro d _
    show (d.code == c.code) = decide (d = c)
    cases d <;> cases c <;> rfl
  rw [e] at this
  exact this
theorem cmp_eqLn {a : Dr} : Cmp X .Eq (L1 a) (.str (SX.S [110])) (decide (a = .n)) := cmp_eqL (b := .n)
theorem cmp_neLn {a : Dr} : Cmp X .NotEq (L1 a) (.str (SX.S [110])) (!decide (a = .n)) := cmp_neL (b := .n)
theorem mt_countWn {w : Wk} : MtD X "str.count" (W w) [.str (SX.S [110])] (.int (cnt .n w : Nat)) := mt_countW (c := .n)
theorem cmp_eqLw {a : Dr} : Cmp X .Eq (L1 a) (.str (SX.S [119])) (decide (a = .w)) := cmp_eqL (b := .w)
theorem cmp_neLw {a : Dr} : Cmp X .NotEq (L1 a) (.str (SX.S [119])) (!decide (a = .w)) := cmp_neL (b := .w)
theorem mt_countWw {w : Wk} : MtD X "str.count" (W w) [.str (SX.S [119])] (.int (cnt .w w : Nat)) := mt_countW (c := .w)
theorem cmp_eqLs {a : Dr} : Cmp X .Eq (L1 a) (.str (SX.S [115])) (decide (a = .s)) := cmp_eqL (b := .s)
theorem cmp_neLs {a : Dr} : Cmp X .NotEq (L1 a) (.str (SX.S [115])) (!decide (a = .s)) := cmp_neL (b := .s)
theorem mt_countWs {w : Wk} : MtD X "str.count" (W w) [.str (SX.S [115])] (.int (cnt .s w : Nat)) := mt_countW (c := .s)
theorem cmp_eqLe {a : Dr} : Cmp X .Eq (L1 a) (.str (SX.S [101])) (decide (a = .e)) := cmp_eqL (b := .e)
theorem cmp_neLe {a : Dr} : Cmp X .NotEq (L1 a) (.str (SX.S [101])) (!decide (a = .e)) := cmp_neL (b := .e)
theorem mt_countWe {w : Wk} : MtD X "str.count" (W w) [.str (SX.S [101])] (.int (cnt .e w : Nat)) := mt_countW (c := .e)
theorem cmp_eqW0 {w : Wk} : Cmp X .Eq (W w) (.str (SX.S [])) (decide (w = [])) := cmp_eqW (b := [])
theorem cmp_neW0 {w : Wk} : Cmp X .NotEq (W w) (.str (SX.S [])) (!decide (w = [])) := cmp_neW (b := [])
theorem cmp_inL {a : Dr} {l : List Nat} : Cmp X .In (L1 a) (.str (SX.S l)) (decide (a.code ∈ l)) := cmp_inS
theorem mt_indexW {d : Dr} : MtD X "str.index" (.str (SX.S [110, 119, 115, 101])) [L1 d] (.int (d.ix : Nat)) := by
  refine mt_index1 (i := d.ix) ?_ ?_
  · cases d <;> rfl
  · intro j hj
    cases d with
    | n => exact absurd hj (Nat.not_lt_zero _)
    | w =>
      have : j = 0 := by show j = 0; have : j < 1 := hj; omega
      subst this
      decide
    | s =>
      have h : j = 0 ∨ j = 1 := by have : j < 2 := hj; omega
      rcases h with rfl | rfl <;> decide
    | e =>
      have h : j = 0 ∨ j = 1 ∨ j = 2 := by have : j < 3 := hj; omega
      rcases h with rfl | rfl | rfl <;> decide
theorem ix_lett {k : Int} {d : Dr} : Ix X (.str (SX.S [110, 119, 115, 101])) (.int (((d.ix : Nat) + k) % 4)) (L1 (turnD k d)) := by
  refine ix_S (l := [110, 119, 115, 101]) (c := (turnD k d).code) ?_ (by decide)
  unfold turnD
  have h1 : 0 ≤ ((d.ix : Int) + k) % 4 := Int.emod_nonneg _ (by decide)
  have h2 : ((d.ix : Int) + k) % 4 < 4 := Int.emod_lt_of_pos _ (by decide)
  generalize ((d.ix : Int) + k) % 4 = m at h1 h2
  have h : m = 0 ∨ m = 1 ∨ m = 2 ∨ m = 3 := by omega
  rcases h with rfl | rfl | rfl | rfl <;> rfl
end
/-! where a walk ends -/
theorem goAll_x : ∀ (w : Wk) (p : Pt), (goAll p w).1 = p.1 + (cnt .e w - cnt .w w : Int) ∧ (goAll p w).2 = p.2 + (cnt .n w - cnt .s w : Int)
  | [], p => by simp [goAll, cnt]
  | d :: r, p => by
    have ih := goAll_x r (go p d)
    have e : goAll p (d :: r) = goAll (go p d) r := rfl
    rw [e, ih.1, ih.2]
    cases d <;> simp [cnt, go, Dr.dx, Dr.dy] <;> omega
theorem goAll_end (w : Wk) : goAll (0, 0) w = ((cnt .e w : Int) - cnt .w w, (cnt .n w : Int) - cnt .s w) := by
  have h := goAll_x w (0, 0)
  refine Prod.ext ?_ ?_
  · rw [h.1]; simp
  · rw [h.2]; simp
theorem walkFrom_last : ∀ (w : Wk) (p : Pt), (walkFrom p w).getLast? = some (goAll p w)
  | [], p => rfl
  | d :: r, p => by
    have ih := walkFrom_last r (go p d)
    show (p :: walkFrom (go p d) r).getLast? = some (goAll (go p d) r)
    have hne : walkFrom (go p d) r ≠ [] := fun z => by
      have := walkFrom_len r (go p d)
      rw [z] at this
      cases this
    rw [List.getLast?_cons, ih]
    rfl
theorem walkFrom_snoc : ∀ (w : Wk) (p : Pt) (d : Dr), walkFrom p (w ++ [d]) = walkFrom p w ++ [go (goAll p w) d]
  | [], p, d => rfl
  | c :: r, p, d => by
    show p :: walkFrom (go p c) (r ++ [d]) = p :: walkFrom (go p c) r ++ [go (goAll (go p c) r) d]
    rw [walkFrom_snoc r (go p c) d]
    rfl
theorem take_getD {α : Type} (w : List α) (d : α) (i : Nat) (h : i < w.length) : w.take (i + 1) = w.take i ++ [w.getD i d] := by
  rw [List.take_add_one, List.getD_eq_getElem?_getD, List.getElem?_eq_getElem h]
  rfl
end Sw

/-! zip of a list and a text; enumerate of a text, of a list -/
namespace Sw
open PySem PySem.Spec PyProof.Rows L2
def ItzS (K : PySem.W.Frag) (a : Addr) (z : Str) : It :=
  ⟨fun i H => ∃ (xs : List V) (x : V), SqL K H a xs ∧ xs[i]? = some x ∧ i < z.cps.size,
    fun i H v H' => ∃ T x c, v = .ref T ∧ H T = none ∧ H' = upd H T (.tup [x, .str ⟨#[c]⟩]) ∧ (∀ xs, SqL K H a xs → xs[i]? = some x) ∧ z.cps[i]? = some c,
    fun i H => ∃ xs : List V, SqL K H a xs ∧ i = min xs.length z.cps.size⟩
theorem sep_new {m a : Nat} (h : a < m) : ZipSep2 (m + 4) (m + 2) (m + 3) m (m + 1) [m, a] [m + 1] := by
  have two : ∀ c : Nat, c ≠ m → c ≠ a → c ∉ [m, a] := fun c h1 h2 hm => by
    rcases List.mem_cons.mp hm with e | e
    · exact h1 e
    · rcases List.mem_cons.mp e with e | e
      · exact h2 e
      · cases e
  have one : ∀ c : Nat, c ≠ m + 1 → c ∉ [m + 1] := fun c h1 hm => by
    rcases List.mem_cons.mp hm with e | e
    · exact h1 e
    · cases e
  have ne : ∀ c d : Nat, c < d → c ≠ d := fun c d h => Nat.ne_of_lt h
  have gt : ∀ c d : Nat, d < c → c ≠ d := fun c d h => Nat.ne_of_gt h
  exact ⟨ne _ _ (by omega), ne _ _ (by omega), ne _ _ (by omega), gt _ _ (by omega), List.mem_cons_self .., two _ (gt _ _ (by omega)) (gt _ _ (by omega)), two _ (gt _ _ (by omega)) (gt _ _ (by omega)), gt _ _ (by omega), List.mem_cons_self .., one _ (gt _ _ (by omega)), one _ (gt _ _ (by omega)), one _ (ne _ _ (by omega)), two _ (gt _ _ (by omega)) (gt _ _ (by omega))⟩
theorem turn_zipS {P : Program} {w : World} {K : PySem.W.Frag} {elts : List Expr} {kk : Nat} {tpos : Pos} {a z TI TO i1 i2 : Addr} {x : Str} {t : Tok} (S : ZipSep2 z TI TO i1 i2 [i1, a] [i2]) (hne : a ≠ i1) :
    Turn P w K (.Tuple elts kk tpos) (ItzS K a x) [z, TI, TO, i1, i2] z (fun i h => IsZip h z TI TO .none ∧ IsTupOf2 h TI (.ref i1) (.ref i2) ∧ (∃ a1 a2, IsTupOf2 h TO a1 a2) ∧ h.IsListIter i1 a i ∧ h.IsStrIter i2 (strIterType x) x t i) where
  mem := by simp
  obj := fun i h st c hc => by
    obtain ⟨hz, hTI, ⟨x, y, hTO⟩, ⟨o1, e1, _, d1⟩, ⟨o2, e2, _, d2⟩⟩ := st
    have e' : c = z ∨ c = TI ∨ c = TO ∨ c = i1 ∨ c = i2 := by simpa using hc
    rcases e' with q | q | q | q | q
    · rw [q]; exact ⟨_, hz, fun v q => nomatch q⟩
    · rw [q]; exact ⟨_, hTI, fun v q => nomatch q⟩
    · rw [q]; exact ⟨_, hTO, fun v q => nomatch q⟩
    · rw [q]; exact ⟨o1, e1, fun v q => by rw [d1] at q; cases q⟩
    · rw [q]; exact ⟨o2, e2, fun v q => by rw [d2] at q; cases q⟩
  keep := fun i h h' st k => by
    obtain ⟨hz, hTI, ⟨x, y, hTO⟩, h1, h2⟩ := st
    obtain ⟨o2, e2, r2⟩ := h2
    exact ⟨k z (by simp) _ hz, k TI (by simp) _ hTI, ⟨x, y, k TO (by simp) _ hTO⟩, h1.at fun o q => k i1 (by simp) o q, ⟨o2, k i2 (by simp) _ e2, r2⟩⟩
  item := by
    intro X hP hw hK hc i pins s σ H E I hf st hg
    subst hP hw hK
    obtain ⟨hz, hTI, hTO, h1, h2⟩ := st
    obtain ⟨xs, y, hqx, hy, hi⟩ := hg
    obtain ⟨its, rv, p, _⟩ := I.list hqx
    obtain ⟨u, hu, ru⟩ := rv.get hy
    have hd : X.A.handled = none := I.ok.hd hc
    have W := GoesN.zip2 (prog := X.prog) (w := X.w) (A := X.A) (elts := elts) (x1 := kk) (pos := tpos) S (Draws.list (A := X.A.in1) hd i1 a hne its.toArray) (Draws.text (A := X.A.in1) hd i2 x t)
    have hlt : i < min its.toArray.size x.cps.size := by
      have : i < its.length := (List.getElem?_eq_some_iff.mp hu).1
      simp
      omega
    refine W.goes i s (fun v s2 => ∃ x' H', Inv X pins σ H' s2 ∧ RelV x' v ∧ (ItzS X.K a x).yld i H x' H' ∧ _ ∧ ∀ b ∈ [z, TI, TO, i1, i2], H' b = none) E hlt ⟨hz, hTI, hTO, ⟨h1, p.isList⟩, h2⟩ fun v h' tk hY st' hk htk => ?_
    obtain ⟨T, u1, u2, rfl, hT, hu1, ⟨c, t2, hc2, rfl⟩, hIT⟩ := hY
    have e1 : u1 = u := by
      have : its[i]? = some u1 := by simpa using hu1
      rw [hu] at this
      exact (Option.some.inj this).symm
    subst e1
    obtain ⟨o, ho, hoc, n, hod⟩ := hIT
    have new : ObjOk X.prog X.w (upd H T (.tup [y, .str ⟨#[c]⟩])) h' T (.tup [y, .str ⟨#[c]⟩]) :=
      ⟨by show 2 ≤ sizeLine; decide, [u1, .str ⟨#[c]⟩ t2], .cons ru (.cons ⟨_, rfl⟩ .nil), ⟨o, ho, hoc, n, hod⟩⟩
    have I1 : Inv X pins σ (upd H T (.tup [y, .str ⟨#[c]⟩])) { s with heap := h', toks := tk } :=
      I.turnedNew (t' := tk) (ch := [z, TI, TO, i1, i2]) (fun b ob hb q => hk b ob (fun m => hb (by
        have e' : b = z ∨ b = TO ∨ b = i1 ∨ b = i2 := by simpa using m
        rcases e' with q | q | q | q <;> simp [q])) q) hf hT new
    refine ⟨.ref T, _, I1, rfl, ⟨T, y, c, rfl, I.hok.fresh hT, rfl, fun l hl => by rw [I.list_inj hl hqx]; exact hy, hc2⟩, ⟨st'.1, st'.2.1, st'.2.2.1, st'.2.2.2.1.1, st'.2.2.2.2⟩, fun b hb => ?_⟩
    have hbl : b ≠ T := fun z => by
      subst z
      obtain ⟨o', ho'⟩ : ∃ o', s.heap.get? b = some o' := by
        have e' : b = z ∨ b = TI ∨ b = TO ∨ b = i1 ∨ b = i2 := by simpa using hb
        obtain ⟨o1, e1, _⟩ := h1
        obtain ⟨o2, e2, _⟩ := h2
        obtain ⟨a1, a2, hTO⟩ := hTO
        rcases e' with q | q | q | q | q
        · rw [q]; exact ⟨_, hz⟩
        · rw [q]; exact ⟨_, hTI⟩
        · rw [q]; exact ⟨_, hTO⟩
        · rw [q]; exact ⟨o1, e1⟩
        · rw [q]; exact ⟨o2, e2⟩
      exact absurd (Heap.lt_size ho') (Nat.not_lt.mpr hT)
    rw [upd_ne hbl]
    exact (hf b hb).1
  done := by
    intro X hP hw hK hc i pins s σ H E I hf st hg
    subst hP hw hK
    obtain ⟨hz, hTI, hTO, h1, h2⟩ := st
    obtain ⟨xs, hqx, hend⟩ := hg
    obtain ⟨its, rv, p, _⟩ := I.list hqx
    have l1 := rv.length
    have hd : X.A.handled = none := I.ok.hd hc
    have W := GoesN.zip2 (prog := X.prog) (w := X.w) (A := X.A) (elts := elts) (x1 := kk) (pos := tpos) S (Draws.list (A := X.A.in1) hd i1 a hne its.toArray) (Draws.text (A := X.A.in1) hd i2 x t)
    have e : i = min its.toArray.size x.cps.size := by simp; omega
    refine W.stops s (fun s1 => Inv X pins σ H s1) E (by rw [← e]; exact ⟨hz, hTI, hTO, ⟨h1, p.isList⟩, h2⟩) fun h' tk hk htk => ?_
    exact I.turnedL (t' := tk) (ch := [z, TI, TO, i1, i2]) (fun b ob hb q => hk b ob (fun m => hb (by
        have e' : b = z ∨ b = TO ∨ b = i1 ∨ b = i2 := by simpa using m
        rcases e' with q | q | q | q <;> simp [q])) q) hf
  self := fun A i s Q E st h => wpAny_pyIter_zip st.1 h
def iZipS (K : PySem.W.Frag) (ta : TA) : TI := fun σ H R => ta σ H fun vs H1 => ∃ a x xs, vs = [.ref a, .str x] ∧ SqL K H1 a xs ∧ R (ItzS K a x) H1
theorem pi_zipS {X : Cx} {e e2 : Expr} {ta : TA} {p pos tpos : Pos} {elts : List Expr} {kk : Nat} (hg : Gl X "zip") (hm : X.mg "zip" = none) (ha : PA X [e, e2] ta)
    (hs : starEach [e, e2] X.env = (false, eval e X.env) :: starEach [e2] X.env := by rfl) (hpl : (backTo pos (starEach [e2] X.env)).any (·.1) = false := by rfl) :
    PI X (.Tuple elts kk tpos) (.Call (.Name "zip" p) [e, e2] [] pos) (iZipS X.K ta) := by
  refine ⟨fun pins s σ H R I h => ?_⟩
  refine Call_ (ld_blt I hg hm PyProof.Rows.boot_zip (PyProof.Rows.callWith_type1 (thn (ha.run pos pins s σ H _ I h) fun us s1 ⟨vs, H1, I1, r1, q1⟩ => ?_) hs hpl))
  obtain ⟨a, x, xs, ex, hqx, q⟩ := q1
  subst ex
  cases r1 with
  | cons r rr =>
    cases rr with
    | cons r' rr =>
      cases rr
      cases r
      obtain ⟨t, rfl⟩ := r'
      obtain ⟨its, rv, p1, _⟩ := I1.list hqx
      have la : a < s1.heap.objs.size := p1.lt
      refine zip_begins2 (begins_list a its.toArray) (begins_text x t) p1.isList trivial fun h' hz hTI hTO h1 h2 hsz hk => wpAny_pyIter_zip hz ?_
      have I2 : Inv X pins σ H1 { s1 with heap := h' } := I1.kept (t' := s1.toks) hk
      have S : ZipSep2 (s1.heap.objs.size + 4) (s1.heap.objs.size + 2) (s1.heap.objs.size + 3) s1.heap.objs.size (s1.heap.objs.size + 1) [s1.heap.objs.size, a] [s1.heap.objs.size + 1] := by
        exact sep_new la
      refine ⟨s1.heap.objs.size + 4, [s1.heap.objs.size + 4, s1.heap.objs.size + 2, s1.heap.objs.size + 3, s1.heap.objs.size, s1.heap.objs.size + 1], _, _, H1, rfl, I2, turn_zipS S (Nat.ne_of_lt la) (x := x) (t := t), ⟨hz, hTI, ⟨_, _, hTO⟩, ⟨_, h1, rfl, rfl⟩, ⟨_, h2, rfl, rfl⟩⟩, fun c hcm => ?_, q⟩
      have e' : c = s1.heap.objs.size + 4 ∨ c = s1.heap.objs.size + 2 ∨ c = s1.heap.objs.size + 3 ∨ c = s1.heap.objs.size ∨ c = s1.heap.objs.size + 1 := by simpa using hcm
      have hle : s1.heap.objs.size ≤ c := by
        rcases e' with z | z | z | z | z
        · rw [z]; exact Nat.le_add_right _ _
        · rw [z]; exact Nat.le_add_right _ _
        · rw [z]; exact Nat.le_add_right _ _
        · rw [z]; exact Nat.le_refl _
        · rw [z]; exact Nat.le_add_right _ _
      exact I1.fpOk hle (I1.hok.fresh hle)

/-! enumerate(text) -/
def IteS (z : Str) : It :=
  ⟨fun i _ => i < z.cps.size, fun i H v H' => ∃ T c, v = .ref T ∧ H T = none ∧ H' = upd H T (.tup [.int (i : Nat), .str ⟨#[c]⟩]) ∧ z.cps[i]? = some c, fun i _ => i = z.cps.size⟩
theorem turn_enumS {P : Program} {w : World} {K : PySem.W.Frag} {elts : List Expr} {kk : Nat} {tpos : Pos} {e it : Addr} {x : Str} {t : Tok} (hne : e ≠ it) :
    Turn P w K (.Tuple elts kk tpos) (IteS x) [e, it] e (fun i h => (∃ old, IsEnum h e it (0 + (i : Int)) old) ∧ h.IsStrIter it (strIterType x) x t i) where
  mem := by simp
  obj := fun i h st b hb => by
    obtain ⟨⟨old, he⟩, ⟨o, ho, hc, hd⟩⟩ := st
    have e' : b = e ∨ b = it := by simpa using hb
    rcases e' with z | z
    · rw [z]; exact ⟨_, he, fun v q => nomatch q⟩
    · rw [z]; exact ⟨o, ho, fun v q => by rw [hd] at q; cases q⟩
  keep := fun i h h' st k => let ⟨⟨old, he⟩, ⟨o, ho, r⟩⟩ := st; ⟨⟨old, k e (by simp) _ he⟩, ⟨o, k it (by simp) _ ho, r⟩⟩
  item := by
    intro X hP hw hK hc i pins s σ H E I hf st hg
    subst hP hw hK
    have hd : X.A.handled = none := I.ok.hd hc
    have W := GoesN.enumFrom (prog := X.prog) (w := X.w) (A := X.A) (elts := elts) (x1 := kk) (pos := tpos) 0 (Draws.text (A := X.A.in1) hd it x t) e hne (by simpa using hne) (by simp)
    refine W.goes i s (fun v s2 => ∃ x' H', Inv X pins σ H' s2 ∧ RelV x' v ∧ (IteS x).yld i H x' H' ∧ _ ∧ ∀ b ∈ [e, it], H' b = none) E hg st fun v h' tk hY st' hk htk => ?_
    obtain ⟨T, t1, u, rfl, hT, ⟨c, t2, hc2, rfl⟩, hIT⟩ := hY
    obtain ⟨o, ho, hoc, n, hod⟩ := hIT
    rw [Int.zero_add] at hod
    have new : ObjOk X.prog X.w (upd H T (.tup [.int (i : Nat), .str ⟨#[c]⟩])) h' T (.tup [.int (i : Nat), .str ⟨#[c]⟩]) :=
      ⟨by show 2 ≤ sizeLine; decide, [.int i t1, .str ⟨#[c]⟩ t2], .cons ⟨_, rfl⟩ (.cons ⟨_, rfl⟩ .nil), ⟨o, ho, hoc, n, hod⟩⟩
    have I1 : Inv X pins σ (upd H T (.tup [.int (i : Nat), .str ⟨#[c]⟩])) { s with heap := h', toks := tk } :=
      I.turnedNew (t' := tk) (ch := [e, it]) (fun b ob hb q => hk b ob hb q) hf hT new
    refine ⟨.ref T, _, I1, rfl, ⟨T, c, rfl, I.hok.fresh hT, rfl, hc2⟩, st', fun b hb => ?_⟩
    have hbl : b ≠ T := fun z => by
      subst z
      obtain ⟨o', ho'⟩ : ∃ o', s.heap.get? b = some o' := by
        have e' : b = e ∨ b = it := by simpa using hb
        obtain ⟨⟨old, he⟩, ⟨o2, e2, _⟩⟩ := st
        rcases e' with q | q
        · rw [q]; exact ⟨_, he⟩
        · rw [q]; exact ⟨_, e2⟩
      exact absurd (Heap.lt_size ho') (Nat.not_lt.mpr hT)
    rw [upd_ne hbl]
    exact (hf b hb).1
  done := by
    intro X hP hw hK hc i pins s σ H E I hf st hg
    subst hP hw hK
    have hd : X.A.handled = none := I.ok.hd hc
    have W := GoesN.enumFrom (prog := X.prog) (w := X.w) (A := X.A) (elts := elts) (x1 := kk) (pos := tpos) 0 (Draws.text (A := X.A.in1) hd it x t) e hne (by simpa using hne) (by simp)
    have hg' : i = x.cps.size := hg
    subst hg'
    exact W.stops s (fun s1 => Inv X pins σ H s1) E st fun h' tk hk htk => I.turnedL (t' := tk) (ch := [e, it]) (fun b ob hb q => hk b ob hb q) hf
  self := fun A i s Q E st h => let ⟨⟨_, he⟩, _⟩ := st; wpAny_pyIter_enum he h
def iEnumS (ta : TA) : TI := fun σ H R => ta σ H fun vs H1 => ∃ x, vs = [.str x] ∧ R (IteS x) H1
theorem pi_enumS {X : Cx} {e : Expr} {ta : TA} {p pos tpos : Pos} {elts : List Expr} {kk : Nat} (hg : Gl X "enumerate") (hm : X.mg "enumerate" = none) (ha : PA X [e] ta) (hs : starEach [e] X.env = [(false, eval e X.env)] := by rfl) :
    PI X (.Tuple elts kk tpos) (.Call (.Name "enumerate" p) [e] [] pos) (iEnumS ta) := by
  refine ⟨fun pins s σ H R I h => ?_⟩
  refine Call_ (ld_blt I hg hm b_enumerate (PyProof.Rows.callWith_type1 (thn (ha.run pos pins s σ H _ I h) fun us s1 ⟨vs, H1, I1, r1, q1⟩ => ?_) hs rfl))
  obtain ⟨x, ex, q⟩ := q1
  subst ex
  cases r1 with
  | cons r rr =>
    cases rr
    obtain ⟨t, rfl⟩ := r
    refine call_enumerate_str fun h' he hit hsz hk => wpAny_pyIter_enum he ?_
    have I2 : Inv X pins σ H1 { s1 with heap := h' } := I1.kept (t' := s1.toks) hk
    refine ⟨s1.heap.objs.size + 1, [s1.heap.objs.size + 1, s1.heap.objs.size], _, _, H1, rfl, I2, turn_enumS (Nat.succ_ne_self _) (x := x) (t := t), ⟨⟨.none, he⟩, hit⟩, fun b hb => ?_, q⟩
    have e' : b = s1.heap.objs.size + 1 ∨ b = s1.heap.objs.size := by simpa using hb
    have hle : s1.heap.objs.size ≤ b := by
      rcases e' with z | z
      · rw [z]; exact Nat.le_add_right _ _
      · rw [z]; exact Nat.le_refl _
    exact I1.fpOk hle (I1.hok.fresh hle)

/-! the loops' rules -/
section
variable {K : PySem.W.Frag} {a : Addr} {xs : List V} {z : Str}
def sgn (z : Str) (i : Nat) : Option V := z.cps[i]?.map fun c => V.str ⟨#[c]⟩
theorem walk_zipS : Walk (ItzS K a z) (min xs.length z.cps.size) (fun H => SqL K H a xs) (YPair (fun i => xs[i]?) (sgn z)) := by
  refine ⟨fun i _ hi q => ?_, fun _ q => ⟨xs, q, rfl⟩, fun i H v H' _ q y => ?_⟩
  · have h1 : i < xs.length := by omega
    exact ⟨xs, xs[i], q, by simp [h1], by omega⟩
  · obtain ⟨T, x, c, h1, h2, h3, h4, h5⟩ := y
    exact ⟨T, x, .str ⟨#[c]⟩, h1, h2, h3, h4 xs q, by unfold sgn; rw [h5]; rfl⟩
theorem walk_enumS : Walk (IteS z) z.cps.size (fun _ => True) (YPair (fun i => some (.int (i : Nat))) (sgn z)) := by
  refine ⟨fun i _ hi _ => hi, fun _ _ => rfl, fun i H v H' _ _ y => ?_⟩
  obtain ⟨T, c, h1, h2, h3, h4⟩ := y
  exact ⟨T, .int (i : Nat), .str ⟨#[c]⟩, h1, h2, h3, rfl, by unfold sgn; rw [h4]; rfl⟩
theorem pair_ok {f g : Nat → Option V} {i : Nat} {H H' : Hp} {x : V} {d e : PyData} (y : YPair f g i H x H') (hf : ∀ u, f i = some u → Rp K H u d) (hg : ∀ u, g i = some u → Rp K H u e) : Same H H' ∧ Rp K H' x (.tuple [d, e]) := by
  obtain ⟨T, u, v, rfl, hT, rfl, h1, h2⟩ := y
  exact ⟨same_new hT, .tup upd_same (.cons ((hf u h1).mono (same_new hT)) (.cons ((hg v h2).mono (same_new hT)) .nil))⟩
theorem sgn_ok {H : Hp} {l : List Nat} {i : Nat} {u : V} (h : sgn (SX.S l) i = some u) : Rp K H u (.str (SX.S [l.getD i 0])) := by
  unfold sgn at h
  cases q : (SX.S l).cps[i]? with
  | none => rw [q] at h; cases h
  | some c =>
    rw [q] at h
    cases h
    exact rp_sign q
theorem get_ok {H : Hp} {ds : List PyData} {i : Nat} {u : V} (d1 : RpAll K H xs ds) (h : xs[i]? = some u) : Rp K H u (ds.getD i .none) := by
  obtain ⟨d, hd, r⟩ := RpAll.get' d1 h
  rw [getD_at hd]
  exact r
end
section
variable {X : Cx} {H0 : Hp} {env : En} {e e2 : Expr} {elts : List Expr} {kk : Nat} {p pos tpos : Pos}
theorem its_zipS {ds : List PyData} {l : List Nat} (hg : Gl X "zip") (hm : X.mg "zip" = none) (he : EvL X env e ds) (he2 : Ev X env e2 (.str (SX.S l))) (hf : fzs ds = true)
    (hs : starEach [e, e2] X.env = (false, eval e X.env) :: starEach [e2] X.env := by rfl) (hs2 : starEach [e2] X.env = (false, eval e2 X.env) :: starEach [] X.env := by rfl) (hpl : (backTo pos (starEach [e2] X.env)).any (·.1) = false := by rfl) :
    ItS X H0 env (.Tuple elts kk tpos) (.Call (.Name "zip" p) [e, e2] [] pos) (min ds.length l.length) (fun i => .tuple [ds.getD i .none, .str (SX.S [l.getD i 0])]) :=
  ⟨_, pi_zipS hg hm (pa_cons he (ea_cons he2 ea_nil hs2) hs) hs hpl, fun B σ H R S q => ⟨S.e, fun a vs H1 s1 hl h1 d1 => ⟨S.e.mono s1, fun us H2 s2 d2 => by
    cases d2 with
    | cons r rr =>
      cases rr
      cases r
      have s12 := s1.trans s2
      have hb : hide B H H2 a = some (.lst vs) := by
        rw [hide_at (by rw [hl]; exact id)]
        exact s2 _ _ h1
      have W := walk_zipS (K := X.K) (a := a) (xs := vs) (z := SX.S l)
      rw [RpAll.len d1, show (SX.S l).cps.size = l.length from SX.S_len l] at W
      refine ⟨a, _, vs, rfl, .of (s2 _ _ h1), q _ H2 (hide B H H2) _ _ s12 (S.hide s12) W (fun H' s => SqL.of (K := X.K) (s _ _ hb)) fun i H' x H'' hi sB hy => ?_⟩
      exact pair_ok hy (fun u hu => (get_ok (dkeeps (hide_keep s12) _ _ hf (d1.mono s2)) hu).mono sB) fun u hu => sgn_ok hu⟩⟩⟩
theorem its_enumS {l : List Nat} (hg : Gl X "enumerate") (hm : X.mg "enumerate" = none) (he : Ev X env e (.str (SX.S l))) (hs : starEach [e] X.env = [(false, eval e X.env)] := by rfl) :
    ItS X H0 env (.Tuple elts kk tpos) (.Call (.Name "enumerate" p) [e] [] pos) l.length (fun i => .tuple [.int (i : Nat), .str (SX.S [l.getD i 0])]) :=
  ⟨_, pi_enumS hg hm (ea_cons he ea_nil hs) hs, fun B σ H R S q => ⟨S.e, fun us H1 s1 d1 => by
    cases d1 with
    | cons r rr =>
      cases rr
      cases r
      have W := walk_enumS (z := SX.S l)
      rw [show (SX.S l).cps.size = l.length from SX.S_len l] at W
      refine ⟨_, rfl, q _ H1 B _ _ s1 (S.grow s1) W (fun _ _ => trivial) fun i H' x H'' hi sB hy => ?_⟩
      exact pair_ok hy (fun u hu => by cases hu; exact .int _) fun u hu => sgn_ok hu⟩⟩
theorem its_enumN {ds : List PyData} (hg : Gl X "enumerate") (hm : X.mg "enumerate" = none) (he : EvL X env e ds) (hf : fzs ds = true) (hs : starEach [e] X.env = [(false, eval e X.env)] := by rfl) (hs2 : starEach [e] X.env = (false, eval e X.env) :: starEach [] X.env := by rfl) :
    ItS X H0 env (.Tuple elts kk tpos) (.Call (.Name "enumerate" p) [e] [] pos) ds.length (fun i => .tuple [.int (i : Nat), ds.getD i .none]) :=
  ⟨_, pi_enum hg hm (pa_cons he ea_nil hs2) hs, fun B σ H R S q => ⟨S.e, fun a vs H1 s1 hl h1 d1 => ⟨S.e.mono s1, fun us H2 s2 d2 => by
    cases d2
    have s12 := s1.trans s2
    have hb : hide B H H2 a = some (.lst vs) := by
      rw [hide_at (by rw [hl]; exact id)]
      exact s2 _ _ h1
    have W := walk_enum (K := X.K) (a := a) (xs := vs)
    rw [RpAll.len d1] at W
    refine ⟨a, vs, rfl, .of (s2 _ _ h1), q _ H2 (hide B H H2) _ _ s12 (S.hide s12) W (fun H' s => SqL.of (K := X.K) (s _ _ hb)) fun i H' x H'' hi sB hy => ?_⟩
    exact pair_ok hy (fun u hu => by cases hu; exact .int _) fun u hu => (get_ok (dkeeps (hide_keep s12) _ _ hf (d1.mono s2)) hu).mono sB⟩⟩⟩
/-- enumerate(x), x a slot's data list -/
theorem its_enumV (j : Nat) {x : Str} {px : Pos} {ds : List PyData} (hg : Gl X "enumerate") (hm : X.mg "enumerate" = none) (hN : X.N[j]? = some x) (hv : Vis X.env.scope x) (hj : env[j]? = some (some (.d (.list ds)))) (hb : (x == ("__debug__" : Str)) = false := by decide) (hcd : (x == ("__classdict__" : Str)) = false := by decide)
    (hs : starEach [.Name x px] X.env = [(false, eval (.Name x px) X.env)] := by rfl) (hs2 : starEach [.Name x px] X.env = (false, eval (.Name x px) X.env) :: starEach [] X.env := by rfl) :
    ItS X H0 env (.Tuple elts kk tpos) (.Call (.Name "enumerate" p) [.Name x px] [] pos) ds.length (fun i => .tuple [.int (i : Nat), ds.getD i .none]) :=
  ⟨_, pi_enum hg hm (pa_cons (pe_var hN hv hb hcd) (ea_nil (env := env)) hs2) hs, fun B σ H R S q => by
    obtain ⟨v, h1, h2⟩ := S.sl j _ hj
    have h2 : Rp X.K B v (.list ds) := by
      rcases h2 with h | h
      · exact h
      · exact absurd h.1 (by simp [fz])
    cases h2 with
    | lst hs ha =>
      rename_i a vs
      refine ⟨_, h1, S.e, fun us H2 s2 d2 => ?_⟩
      cases d2
      have W := walk_enum (K := X.K) (a := a) (xs := vs)
      rw [RpAll.len ha] at W
      refine ⟨a, vs, rfl, (S.e1.trans s2).seq hs, q _ H2 B _ _ s2 (S.grow s2) W (fun H' s => s.seq hs) fun i H' x H'' hi sB hy => ?_⟩
      exact pair_ok hy (fun u hu => by cases hu; exact .int _) fun u hu => (get_ok ha hu).mono sB⟩
end
section
variable {X : Cx} {H0 : Hp} {env : En} {D : Ends} {rest body : List Stmt} {pos : Pos}
/-- for a, b in .. -/
theorem rs_for2 {x y : Str} {px py pt : Pos} {kt : Nat} {iter : Expr} {n : Nat} {u v : Nat → PyData} {i j : Nat} (E : Nat → En) (hi : nmIx x X.N 0 = some i) (hj : nmIx y X.N 0 = some j) (hN : X.N.Nodup) (hx : Loc X.env.scope x) (hy : Loc X.env.scope y) (hp : PassesOwn (model X.prog X.w) X.A X.env X.xe)
    (hI : ItS X H0 env (.Tuple [.Name x px, .Name y py] kt pt) iter n (fun i => .tuple [u i, v i]))
    (h0 : Le (E 0) env) (hit : ∀ i, i < n → fz (u i) = true ∧ fz (v i) = true)
    (turn : ∀ (m : Nat) (Hl : Hp) (D' : Ends), m < n → Same H0 Hl → D'.nx = NX X Hl (E (m + 1)) → D'.rt = D.rt → Run X Hl (((E m).set i (some (.d (u m)))).set j (some (.d (v m)))) body D')
    (done : Run X H0 (E n) rest D) (hc : X.calm = true := by rfl) (hfo : ∀ x, foldedSetIterable iter X.env x = pure x := by intro _; rfl)
    (hfx : X.fn x = true ∨ X.env.scope.names.lookup x = some .local := by first | exact .inl rfl | exact .inr rfl) (hfy : X.fn y = true ∨ X.env.scope.names.lookup y = some .local := by first | exact .inl rfl | exact .inr rfl)
    (h2 : (assignEach [.Name x px, .Name y py] X.env).map (·.2) = assign (.Name x px) X.env :: (assignEach [.Name y py] X.env).map (·.2) := by rfl)
    (h3 : (assignEach [.Name y py] X.env).map (·.2) = assign (.Name y py) X.env :: (assignEach [] X.env).map (·.2) := by rfl)
    (hn : (assignEach [.Name x px, .Name y py] X.env).length = 2 := by rfl) (hst : (assignEach [.Name x px, .Name y py] X.env).findIdx? (·.1) = none := by rfl) : Run X H0 env (.For (.Tuple [.Name x px, .Name y py] kt pt) iter body [] pos :: rest) D :=
  run_for E hp hc hI (pg_tup hc (pgs_cons (pg_name hN (nm0 hi) hx hfx) (pgs_cons (pg_name hN (nm0 hj) hy hfy) pgs_nil h3) h2) hn hst) (gs_tup2 (gs_name i) (gs_name j)) h0 (fun m hm => ⟨by have := hit m hm; simp [fz, fzs, this.1, this.2], ⟨_, _, rfl, trivial, trivial⟩⟩) turn done hfo
/-- for (a, b), c in .. -/
theorem rs_for21 {x y z : Str} {px py pz pt pt2 : Pos} {kt kt2 : Nat} {iter : Expr} {n : Nat} {u v w : Nat → PyData} {i j l : Nat} (E : Nat → En) (hi : nmIx x X.N 0 = some i) (hj : nmIx y X.N 0 = some j) (hl : nmIx z X.N 0 = some l) (hN : X.N.Nodup) (hx : Loc X.env.scope x) (hy : Loc X.env.scope y) (hz : Loc X.env.scope z) (hp : PassesOwn (model X.prog X.w) X.A X.env X.xe)
    (hI : ItS X H0 env (.Tuple [.Tuple [.Name x px, .Name y py] kt pt, .Name z pz] kt2 pt2) iter n (fun i => .tuple [.tuple [u i, v i], w i]))
    (h0 : Le (E 0) env) (hit : ∀ i, i < n → fz (u i) = true ∧ fz (v i) = true ∧ fz (w i) = true)
    (turn : ∀ (m : Nat) (Hl : Hp) (D' : Ends), m < n → Same H0 Hl → D'.nx = NX X Hl (E (m + 1)) → D'.rt = D.rt → Run X Hl ((((E m).set i (some (.d (u m)))).set j (some (.d (v m)))).set l (some (.d (w m)))) body D')
    (done : Run X H0 (E n) rest D) (hc : X.calm = true := by rfl) (hfo : ∀ x, foldedSetIterable iter X.env x = pure x := by intro _; rfl)
    (hfx : X.fn x = true ∨ X.env.scope.names.lookup x = some .local := by first | exact .inl rfl | exact .inr rfl) (hfy : X.fn y = true ∨ X.env.scope.names.lookup y = some .local := by first | exact .inl rfl | exact .inr rfl) (hfz : X.fn z = true ∨ X.env.scope.names.lookup z = some .local := by first | exact .inl rfl | exact .inr rfl)
    (h2 : (assignEach [.Name x px, .Name y py] X.env).map (·.2) = assign (.Name x px) X.env :: (assignEach [.Name y py] X.env).map (·.2) := by rfl)
    (h3 : (assignEach [.Name y py] X.env).map (·.2) = assign (.Name y py) X.env :: (assignEach [] X.env).map (·.2) := by rfl)
    (hn : (assignEach [.Name x px, .Name y py] X.env).length = 2 := by rfl) (hst : (assignEach [.Name x px, .Name y py] X.env).findIdx? (·.1) = none := by rfl)
    (g2 : (assignEach [.Tuple [.Name x px, .Name y py] kt pt, .Name z pz] X.env).map (·.2) = assign (.Tuple [.Name x px, .Name y py] kt pt) X.env :: (assignEach [.Name z pz] X.env).map (·.2) := by rfl)
    (g3 : (assignEach [.Name z pz] X.env).map (·.2) = assign (.Name z pz) X.env :: (assignEach [] X.env).map (·.2) := by rfl)
    (gn : (assignEach [.Tuple [.Name x px, .Name y py] kt pt, .Name z pz] X.env).length = 2 := by rfl) (gst : (assignEach [.Tuple [.Name x px, .Name y py] kt pt, .Name z pz] X.env).findIdx? (·.1) = none := by rfl) : Run X H0 env (.For (.Tuple [.Tuple [.Name x px, .Name y py] kt pt, .Name z pz] kt2 pt2) iter body [] pos :: rest) D :=
  run_for E hp hc hI (pg_tup hc (pgs_cons (pg_tup hc (pgs_cons (pg_name hN (nm0 hi) hx hfx) (pgs_cons (pg_name hN (nm0 hj) hy hfy) pgs_nil h3) h2) hn hst) (pgs_cons (pg_name hN (nm0 hl) hz hfz) pgs_nil g3) g2) gn gst) (gs_tup2 (gs_tup2 (gs_name i) (gs_name j)) (gs_name l)) h0 (fun m hm => ⟨by have := hit m hm; simp [fz, fzs, this.1, this.2], ⟨_, _, rfl, ⟨_, _, rfl, trivial, trivial⟩, trivial⟩⟩) turn done hfo
/-- for a, (b, c) in .. -/
theorem rs_for12 {x y z : Str} {px py pz pt pt2 : Pos} {kt kt2 : Nat} {iter : Expr} {n : Nat} {u v w : Nat → PyData} {i j l : Nat} (E : Nat → En) (hi : nmIx x X.N 0 = some i) (hj : nmIx y X.N 0 = some j) (hl : nmIx z X.N 0 = some l) (hN : X.N.Nodup) (hx : Loc X.env.scope x) (hy : Loc X.env.scope y) (hz : Loc X.env.scope z) (hp : PassesOwn (model X.prog X.w) X.A X.env X.xe)
    (hI : ItS X H0 env (.Tuple [.Name x px, .Tuple [.Name y py, .Name z pz] kt pt] kt2 pt2) iter n (fun i => .tuple [u i, .tuple [v i, w i]]))
    (h0 : Le (E 0) env) (hit : ∀ i, i < n → fz (u i) = true ∧ fz (v i) = true ∧ fz (w i) = true)
    (turn : ∀ (m : Nat) (Hl : Hp) (D' : Ends), m < n → Same H0 Hl → D'.nx = NX X Hl (E (m + 1)) → D'.rt = D.rt → Run X Hl ((((E m).set i (some (.d (u m)))).set j (some (.d (v m)))).set l (some (.d (w m)))) body D')
    (done : Run X H0 (E n) rest D) (hc : X.calm = true := by rfl) (hfo : ∀ x, foldedSetIterable iter X.env x = pure x := by intro _; rfl)
    (hfx : X.fn x = true ∨ X.env.scope.names.lookup x = some .local := by first | exact .inl rfl | exact .inr rfl) (hfy : X.fn y = true ∨ X.env.scope.names.lookup y = some .local := by first | exact .inl rfl | exact .inr rfl) (hfz : X.fn z = true ∨ X.env.scope.names.lookup z = some .local := by first | exact .inl rfl | exact .inr rfl)
    (h2 : (assignEach [.Name y py, .Name z pz] X.env).map (·.2) = assign (.Name y py) X.env :: (assignEach [.Name z pz] X.env).map (·.2) := by rfl)
    (h3 : (assignEach [.Name z pz] X.env).map (·.2) = assign (.Name z pz) X.env :: (assignEach [] X.env).map (·.2) := by rfl)
    (hn : (assignEach [.Name y py, .Name z pz] X.env).length = 2 := by rfl) (hst : (assignEach [.Name y py, .Name z pz] X.env).findIdx? (·.1) = none := by rfl)
    (g2 : (assignEach [.Name x px, .Tuple [.Name y py, .Name z pz] kt pt] X.env).map (·.2) = assign (.Name x px) X.env :: (assignEach [.Tuple [.Name y py, .Name z pz] kt pt] X.env).map (·.2) := by rfl)
    (g3 : (assignEach [.Tuple [.Name y py, .Name z pz] kt pt] X.env).map (·.2) = assign (.Tuple [.Name y py, .Name z pz] kt pt) X.env :: (assignEach [] X.env).map (·.2) := by rfl)
    (gn : (assignEach [.Name x px, .Tuple [.Name y py, .Name z pz] kt pt] X.env).length = 2 := by rfl) (gst : (assignEach [.Name x px, .Tuple [.Name y py, .Name z pz] kt pt] X.env).findIdx? (·.1) = none := by rfl) : Run X H0 env (.For (.Tuple [.Name x px, .Tuple [.Name y py, .Name z pz] kt pt] kt2 pt2) iter body [] pos :: rest) D :=
  run_for E hp hc hI (pg_tup hc (pgs_cons (pg_name hN (nm0 hi) hx hfx) (pgs_cons (pg_tup hc (pgs_cons (pg_name hN (nm0 hj) hy hfy) (pgs_cons (pg_name hN (nm0 hl) hz hfz) pgs_nil h3) h2) hn hst) pgs_nil g3) g2) gn gst) (gs_tup2 (gs_name i) (gs_tup2 (gs_name j) (gs_name l))) h0 (fun m hm => ⟨by have := hit m hm; simp [fz, fzs, this.1, this.2], ⟨_, _, rfl, trivial, ⟨_, _, rfl, trivial, trivial⟩⟩⟩) turn done hfo
end
end Sw

/-! sorted -/
namespace Sw
open PySem PySem.Spec PyProof.Rows L2
open PySem.W (EachIs AllAlike Sortable dataLe alike)
noncomputable def srt (ds : List PyData) : List PyData := ds.mergeSort (dataLe false id)
section
variable {K : PySem.W.Frag} {H : Hp}
theorem noDs_mem {d : PyData} : ∀ {ds : List PyData}, noDs ds = true → d ∈ ds → noD d = true
  | e :: ds, h, hm => by
    simp only [noDs, Bool.and_eq_true] at h
    rcases List.mem_cons.mp hm with rfl | hm
    · exact h.1
    · exact noDs_mem h.2 hm
theorem noDs_of : ∀ {ds : List PyData}, (∀ d ∈ ds, noD d = true) → noDs ds = true
  | [], _ => rfl
  | d :: ds, h => by
    simp only [noDs, Bool.and_eq_true]
    exact ⟨h d (List.mem_cons_self ..), noDs_of fun e m => h e (List.mem_cons_of_mem _ m)⟩
theorem each_zip : ∀ {xs : List V} {us : List Value} {ds : List PyData}, Vals xs us → xs.length = ds.length → EachIs (fun (u : Value) (b : V × PyData) => RelV b.1 u) us (xs.zip ds)
  | _, _, [], .nil, _ => .nil
  | _, _, _ :: _, .cons h t, e => .cons h (each_zip t (by simpa using e))
  | _, _, _ :: _, .nil, e => by simp at e
  | _, _, [], .cons _ _, e => by simp at e
theorem vals_each : ∀ {us : List Value} {bs : List (V × PyData)}, EachIs (fun (u : Value) (b : V × PyData) => RelV b.1 u) us bs → Vals (bs.map (·.1)) us
  | _, _, .nil => .nil
  | _, _, .cons h t => .cons h (vals_each t)
theorem rp_zip : ∀ {xs : List V} {ds : List PyData}, RpAll K H xs ds → ∀ b ∈ xs.zip ds, Rp K H b.1 b.2
  | _, _, .nil, b, hb => by simp at hb
  | _, _, .cons h t, b, hb => by
    rw [List.zip_cons_cons, List.mem_cons] at hb
    rcases hb with rfl | hb
    · exact h
    · exact rp_zip t b hb
theorem rp_of_zip : ∀ {bs : List (V × PyData)}, (∀ b ∈ bs, Rp K H b.1 b.2) → RpAll K H (bs.map (·.1)) (bs.map (·.2))
  | [], _ => .nil
  | b :: bs, h => .cons (h b (List.mem_cons_self ..)) (rp_of_zip fun c hc => h c (List.mem_cons_of_mem _ hc))
theorem each_with {R S : Value → V × PyData → Prop} : ∀ {us : List Value} {bs : List (V × PyData)}, EachIs R us bs → (∀ b ∈ bs, ∀ u, R u b → S u b) → EachIs S us bs
  | _, _, .nil, _ => .nil
  | _, _, .cons h t, w => .cons (w _ (List.mem_cons_self ..) _ h) (each_with t fun b hb => w b (List.mem_cons_of_mem _ hb))
theorem rp_perm {xs : List V} {ds : List PyData} (h : RpAll K H xs ds) : ∃ ys : List V, ys.length = xs.length ∧ RpAll K H ys (srt ds) ∧ ys = ((xs.zip ds).mergeSort (dataLe false (·.2))).map (·.1) := by
  have hl := RpAll.len h
  refine ⟨_, ?_, ?_, rfl⟩
  · rw [List.length_map, List.length_mergeSort, List.length_zip]
    omega
  · have hm : ∀ b ∈ (xs.zip ds).mergeSort (dataLe false (·.2)), Rp K H b.1 b.2 := fun b hb => rp_zip h b (List.mem_mergeSort.mp hb)
    have r := rp_of_zip hm
    have e : ((xs.zip ds).mergeSort (dataLe false (·.2))).map (·.2) = srt ds := by
      unfold srt
      have h2 := List.map_mergeSort (r := dataLe false (fun b : V × PyData => b.2)) (s := dataLe false id) (f := fun b : V × PyData => b.2) (l := xs.zip ds) (fun a _ b _ => rfl)
      rw [List.map_snd_zip (by omega)] at h2
      exact h2
    rwa [e] at r
end
section
variable {X : Cx} {pins : List (Addr × Obj)} {σ : L2.St} {H : Hp} {s : Shared}
/-- sorted(r), r's items laid in a row first -/
theorem sorted_core {r : Value} {xs : List V} {ds : List PyData} {Q : VK} (I : Inv X pins σ H s) (hd : RpAll X.K H xs ds) (hnd : noDs ds = true) (hal : AllAlike ds) (hk : Sortable ds) (hL : ds.length ≤ sizeLine) (hu : ∀ d ∈ ds, X.A.units + 2 + d.depth < cLine)
    (hcol : ∀ (R : List Value → Shared → Prop) (E : Value → Shared → Prop), (∀ h' tk us, (∀ b o, s.heap.get? b = some o → h'.get? b = some o) → Vals xs us → R us { s with heap := h', toks := tk }) → wpAny (model X.prog X.w) X.A.in1 (collect r) R E s)
    (q : ∀ ys p, RpAll X.K H ys (srt ds) → H p = none → Q (.ref p) (upd H p (.lst ys))) :
    wpAny (model X.prog X.w) X.A (call (.builtin "sorted") [r]) (EP X pins σ Q) X.xe s := by
  refine Calls.call_function_entry PyProof.Rows.kind_sorted PyProof.Rows.plain_sorted PyProof.Rows.entry_sorted (PyProof.Rows.args_sorted1 _) ?_
  unfold Builtin.«sorted»
  refine wpAny_bind (m := checkCount "sorted" 1 1 _) (wpAny_pure ?_)
  refine wpAny_bind (hcol _ _ fun h' tk us hkp hv => ?_)
  have I1 : Inv X pins σ H { s with heap := h', toks := tk } := I.kept hkp
  have hl : us.length = ds.length := by rw [← hv.length, RpAll.len hd]
  refine wpAny_bind (wpAny_newList ?_ (by rw [hl]; exact hL))
  have hoL : (h'.push (seqObj "list" us.toArray 0)).get? h'.objs.size = some (seqObj "list" us.toArray 0) := Heap.get?_push_size _ rfl
  show wpAny _ _ _ _ _ { s with heap := h'.push (seqObj "list" us.toArray 0), toks := tk }
  have ez := each_zip hv (RpAll.len hd)
  have hz2 : (xs.zip ds).map (·.2) = ds := List.map_snd_zip (by rw [RpAll.len hd]; exact Nat.le_refl _)
  have hr0 : EachIs (fun (u : Value) (b : V × PyData) => ∃ as, Reads h' u b.2 as) us (xs.zip ds) := each_with ez fun b hb u hu => Dp.reads I1 b.2 b.1 u (rp_dp _ _ (noDs_mem hnd (List.of_mem_zip hb).2) (rp_zip hd b hb)) hu
  have old : ∀ b o, h'.get? b = some o → (PySem.W.sortingHeap (h'.push (seqObj "list" us.toArray 0)) h'.objs.size us).get? b = some o := fun b o e =>
    PySem.W.sortingHeap_old (Nat.ne_of_lt (Heap.lt_size e)) (Heap.get?_push_of_some _ e)
  have hr1 : EachIs (fun (u : Value) (b : V × PyData) => ∃ as, Reads (PySem.W.sortingHeap (h'.push (seqObj "list" us.toArray 0)) h'.objs.size us) u b.2 as) us (xs.zip ds) := hr0.mono fun _ _ ⟨as, r⟩ => ⟨as, PyProof.Rows.Reads.keeps old r⟩
  have hal2 : AllAlike ((xs.zip ds).map (·.2)) := by rw [hz2]; exact hal
  have hk2 : Sortable ((xs.zip ds).map (·.2)) := by rw [hz2]; exact hk
  have S := PySem.W.SortsAt.data (prog := X.prog) (w := X.w) (A := X.A.in1.in1) (s := { s with heap := PySem.W.sortingHeap (h'.push (seqObj "list" us.toArray 0)) h'.objs.size us, toks := tk }) (PySem.W.each_map (R := fun v d => ∃ as, Reads (PySem.W.sortingHeap (h'.push (seqObj "list" us.toArray 0)) h'.objs.size us) v d as) (fun b : V × PyData => b.2) hr1) hal2 hk2 (by rw [hz2]; exact hu)
  refine wpAny_bind (wpAny_holding (wpAny_call_entry PyProof.Rows.slot_list_sort ⟨_, hoL, rfl⟩ PyProof.Rows.entry_list_sort
    (PySem.W.list_sort_vals (s := { s with heap := h'.push (seqObj "list" us.toArray 0), toks := tk }) hoL S (by rw [hl]; exact hL) ⟨_, rfl, ?_⟩) (PyProof.Rows.args_list_sort _)))
  have ho := PySem.W.sortVals_data (h' := PySem.W.sortingHeap (h'.push (seqObj "list" us.toArray 0)) h'.objs.size us) (enc := fun b : V × PyData => b.2) false ez hr1 hal2
  generalize PySem.W.sortVals _ false us us = out at ho ⊢
  have hvo := vals_each ho
  obtain ⟨ys, yl, yr, ye⟩ := rp_perm hd
  rw [← ye] at hvo
  obtain ⟨e', he'⟩ := PyProof.Rows.sortedHeap_at (vs := us) (out := out.toArray) hoL
  have hlen : ys.length ≤ sizeLine := by rw [yl, RpAll.len hd]; exact hL
  refine wpAny_pure ⟨_, rfl, .ref h'.objs.size, upd H h'.objs.size (.lst ys), I1.laid (t' := tk) (fun b u e => ?_) (Nat.le_refl _)
    (show ObjOk X.prog X.w _ _ _ (.lst ys) from ⟨hlen, out, e', hvo, he'⟩), rfl, q ys _ yr (I1.hok.fresh (Nat.le_refl _))⟩
  have hb : b < h'.objs.size := Heap.lt_size e
  rw [PyProof.Rows.sortedHeap_old (Nat.ne_of_lt hb) (by rw [size_push']; exact Nat.lt_succ_of_lt hb)]
  exact Heap.get?_push_of_some _ e
end
section
variable {X : Cx} {k : Nat}
theorem room_depth (hr : Room k X.A) {d : PyData} (h : d.depth ≤ 60) : X.A.units + 2 + d.depth < cLine := by
  have := hr.units
  omega
theorem call_sortedL {ds : List PyData} (hr : Room k X.A) (hnd : noDs ds = true) (hal : AllAlike ds) (hk : Sortable ds) (hL : ds.length ≤ 1000000) (hu : ∀ d ∈ ds, d.depth ≤ 60) : CallL X (.builtin "sorted") [.list ds] (srt ds) := by
  refine ⟨fun vs H Q => ∃ a xs, vs = [.ref a] ∧ SqL X.K H a xs ∧ RpAll X.K H xs ds ∧ ∀ ys p, RpAll X.K H ys (srt ds) → H p = none → Q (.ref p) (upd H p (.lst ys)), ?_, ?_⟩
  · intro pins s σ H vs us Q I r h
    obtain ⟨a, xs, rfl, hs, hx, q⟩ := h
    obtain ⟨its, rv, hl, hz⟩ := I.list hs
    obtain ⟨u, rfl, ru⟩ := vals1 r
    obtain rfl : u = Value.ref a := ru
    have hL2 : its.length ≤ sizeLine := by
      rw [← rv.length]
      exact hz
    exact sorted_core I hx hnd hal hk (by rw [← RpAll.len hx]; exact hz) (fun d hd => room_depth hr (hu d hd)) (fun R E hR => collect_list hl.isList (hR _ s.toks its (fun b o e => by
      rw [Heap.get?_update_ne _ _ _ _ (Nat.ne_of_lt (Heap.lt_size e))]
      exact Heap.get?_push_of_some _ e) rv) hL2) q
  · intro H vs Q d q
    cases d with
    | cons a b =>
      cases b
      cases a with
      | lst hs ha =>
        exact ⟨_, _, rfl, hs, ha, fun ys p hy hp => q p ys _ (same_new hp) hp upd_same (hy.mono (same_new hp))⟩
theorem call_sortedS {l : List Nat} (hr : Room k X.A) (hc : X.calm = true) (hL : l.length ≤ 1000000) : CallL X (.builtin "sorted") [.str (SX.S l)] (srt (l.map fun c => .str (SX.S [c]))) := by
  refine ⟨fun vs H Q => vs = [.str (SX.S l)] ∧ ∀ ys p, RpAll X.K H ys (srt (l.map fun c => .str (SX.S [c]))) → H p = none → Q (.ref p) (upd H p (.lst ys)), ?_, ?_⟩
  · intro pins s σ H vs us Q I r h
    obtain ⟨rfl, q⟩ := h
    obtain ⟨u, rfl, ru⟩ := vals1 r
    obtain ⟨t, rfl⟩ := ru
    have hx : RpAll X.K H ((l.map fun c => SX.S [c]).map V.str) (l.map fun c => .str (SX.S [c])) := by
      have := RpAll.strs (K := X.K) (H := H) (l.map fun c => SX.S [c])
      rw [List.map_map (f := fun c => SX.S [c]) (g := PyData.str)] at this
      exact this
    have hd : X.A.in1.handled = none := I.ok.hd hc
    have hsz : l.length ≤ sizeLine := Nat.le_trans hL (by decide)
    refine sorted_core I hx (noDs_of fun d hd => ?_) (fun d hd d' hd' => ?_) (.inr fun d hd => ?_) (by rw [List.length_map]; exact hsz) (fun d hd => room_depth hr ?_) (fun R E hR => ?_) q
    · obtain ⟨c, _, rfl⟩ := List.mem_map.mp hd
      rfl
    · obtain ⟨c, _, rfl⟩ := List.mem_map.mp hd
      obtain ⟨c', _, rfl⟩ := List.mem_map.mp hd'
      rfl
    · obtain ⟨c, _, rfl⟩ := List.mem_map.mp hd
      exact ⟨(fun z => by cases z), fun xs z => by cases z⟩
    · obtain ⟨c, _, rfl⟩ := List.mem_map.mp hd
      simp [PyData.depth]
    · refine wpAny_collect_str hd (SX.S l) t (fun s' acc hk hg hdr ho hit => ?_) (by rw [show (SX.S l).cps.size = l.length from SX.S_len l]; exact hsz)
      obtain ⟨h1, h2⟩ := hit
      have es : s' = { s with heap := s'.heap, toks := s'.toks } := by
        cases s'
        cases s
        simp only at hg hdr ho
        subst hg hdr ho
        rfl
      rw [es]
      refine hR _ _ _ hk ?_
      have key : ∀ (m : List Nat) (as : List Value), as.length = m.length → (∀ (j : Nat) (v : Value), as[j]? = some v → ∃ c u, m[j]? = some c ∧ v = .str ⟨#[c]⟩ u) → Vals ((m.map fun c => SX.S [c]).map V.str) as := by
        intro m
        induction m with
        | nil =>
          intro as e _
          rw [List.length_nil] at e
          rw [List.eq_nil_of_length_eq_zero e]
          exact .nil
        | cons c m ih =>
          intro as e h
          cases as with
          | nil => simp at e
          | cons a as =>
            obtain ⟨c', u, e1, e2⟩ := h 0 a rfl
            have e1' : c = c' := by simpa using e1
            subst e1' e2
            exact .cons ⟨u, rfl⟩ (ih as (by simpa using e) fun j v hj => by
              obtain ⟨c', u, e1, e2⟩ := h (j + 1) v (by simpa using hj)
              exact ⟨c', u, by simpa using e1, e2⟩)
      refine key l acc.toList (by rw [Array.length_toList, h1]; exact SX.S_len l) fun j v hj => ?_
      obtain ⟨c, u, e1, e2⟩ := h2 j v (by rw [← Array.getElem?_toList]; exact hj)
      exact ⟨c, u, by simpa using e1, e2⟩
  · intro H vs Q d q
    cases d with
    | cons a b =>
      cases b
      cases a
      exact ⟨rfl, fun ys p hy hp => q p ys _ (same_new hp) hp upd_same (hy.mono (same_new hp))⟩
end
section
variable {X : Cx} {env : En} {e : Expr} {es : List Expr} {pos p : Pos}
theorem evl_callB {x : Str} {id : String} {ds zs : List PyData} (hc : CallL X (.builtin id) ds zs) (hg : Gl X x) (hm : X.mg x = none) (hv : bootBuiltins x = some (.builtin id)) (ha : EvA X env (e :: es) ds)
    (hn : x ≠ "__name__" := by decide) (hdb : (x == ("__debug__" : Str)) = false := by decide)
    (hs : starEach (e :: es) X.env = (false, eval e X.env) :: starEach es X.env := by rfl) (hpl : (backTo pos (starEach es X.env)).any (·.1) = false := by rfl) : EvL X env (.Call (.Name x p) (e :: es) [] pos) zs := by
  obtain ⟨r, ho, hd⟩ := hc
  exact wkE (pe_callB ho hg hm hv ha hn hdb hs hpl) fun σ H Q ⟨he, q⟩ => ⟨he, fun vs H1 s1 d1 => hd H1 vs Q d1 fun l us H2 s2 hl h2 d2 => q l us H2 (s1.trans s2) (s1.free hl) h2 d2⟩
end
end Sw

/-! in a list; range with a step; more of texts -/
namespace Sw
open PySem PySem.Spec PyProof.Rows L2
section
variable {X : Cx}
theorem any_eqv {d : PyData} {ds : List PyData} (h : pl 9 d = true) (g : pls 8 ds = true) : (ds.any fun z => PyData.eqv z d) = true ↔ d ∈ ds := by
  have key : ∀ es : List PyData, pls 8 es = true → ((es.any fun z => PyData.eqv z d) = true ↔ d ∈ es) := by
    intro es
    induction es with
    | nil => simp
    | cons e es ih =>
      intro hg
      simp only [pls, Bool.and_eq_true] at hg
      rw [List.any_cons, Bool.or_eq_true, ih hg.2, List.mem_cons, pl_eqv e d 8 9 hg.1 h]
      exact or_congr_left eq_comm
  exact key ds g
theorem cmp_inD {d : PyData} {ds : List PyData} {b : Bool} {k : Nat} (hr : Room k X.A) (h : pl 9 d = true) (g : pl 9 (.list ds) = true) (hb : b = true ↔ d ∈ ds) : Cmp X .In d (.list ds) b := ⟨_, op_inD (by have := hr.un; omega), fun H v u Q d1 d2 q => by
  refine ⟨d, ds, rp_dp _ _ (pl_noD _ _ h) d1, rp_dp _ _ (pl_noD _ _ g) d2, pl_shaped h (by decide), pl_shaped g (by decide), ?_⟩
  have e1 : (ds.any fun z => PyData.eqv z d) = b := by
    rw [Bool.eq_iff_iff, any_eqv h g, hb]
  rw [e1]
  exact q _ H (Same.refl H) (.bl _)⟩
end
section
variable {X : Cx} {H0 : Hp} {env : En} {e e2 e3 tg : Expr} {p pos : Pos}
theorem rgC_of {i j c : Int} (h : 0 < c ∧ c < 1000000) (hi : -1000000000 ≤ i ∧ i ≤ 1000000000) (hj : -1000000000 ≤ j ∧ j ≤ 1000000000) : ∃ n : Nat, RgC i j c n ∧ (∀ m : Nat, m < n → i + m * c < j) ∧ n ≤ (j - i).toNat := by
  have e : Builtin.Range.rangeSize i j c = if i < j then (j - i - 1) / c + 1 else 0 := by
    unfold Builtin.Range.rangeSize
    rw [if_pos h.1]
  have hq : i < j → 0 ≤ (j - i - 1) / c ∧ (j - i - 1) / c ≤ j - i - 1 := fun hlt => by
    have h1 : 0 ≤ (j - i - 1) / c := Int.ediv_nonneg (by omega) (by omega)
    have h2 : (j - i - 1) / c ≤ j - i - 1 := Int.ediv_le_self _ (by omega)
    exact ⟨h1, h2⟩
  by_cases hlt : i < j
  · obtain ⟨q1, q2⟩ := hq hlt
    refine ⟨((j - i - 1) / c + 1).toNat, ⟨by omega, by omega, ?_, ?_⟩, fun m hm => ?_, by omega⟩
    · unfold Builtin.Range.small
      rw [e, if_pos hlt]
      simp only [Builtin.Range.rangeFitsLong, Bool.and_eq_true, Bool.or_eq_true, decide_eq_true_eq, beq_iff_eq, show c > 0 from h.1, if_true]
      have : (j - i - 1) / c * c ≤ j - i - 1 := Int.ediv_mul_le _ (by omega)
      have h3 : 0 ≤ (j - i - 1) / c * c := Int.mul_nonneg q1 (by omega)
      have h4 : ((j - i - 1) / c + 1) * c = (j - i - 1) / c * c + c := by rw [Int.add_mul, Int.one_mul]
      refine ⟨⟨?_, ?_⟩, ?_⟩ <;> omega
    · rw [e, if_pos hlt]
      omega
    · have h5 : (m : Int) ≤ (j - i - 1) / c := by omega
      have h6 : (m : Int) * c ≤ (j - i - 1) / c * c := Int.mul_le_mul_of_nonneg_right h5 (by omega)
      have h7 : (j - i - 1) / c * c ≤ j - i - 1 := Int.ediv_mul_le _ (by omega)
      omega
  · refine ⟨0, ⟨by omega, by omega, ?_, ?_⟩, fun m hm => absurd hm (Nat.not_lt_zero _), Nat.zero_le _⟩
    · unfold Builtin.Range.small
      rw [e, if_neg hlt]
      simp only [Builtin.Range.rangeFitsLong, Bool.and_eq_true, Bool.or_eq_true, decide_eq_true_eq, beq_iff_eq, show c > 0 from h.1, if_true]
      refine ⟨⟨?_, ?_⟩, ?_⟩ <;> omega
    · rw [e, if_neg hlt]
      rfl
theorem its_range3 {i j c : Int} {n : Nat} (hg : Gl X "range") (hm : X.mg "range" = none) (he : Ev X env e (.int i)) (he2 : Ev X env e2 (.int j)) (he3 : Ev X env e3 (.int c)) (hn : RgC i j c n)
    (hs : starEach [e, e2, e3] X.env = (false, eval e X.env) :: starEach [e2, e3] X.env := by rfl) (hs2 : starEach [e2, e3] X.env = (false, eval e2 X.env) :: starEach [e3] X.env := by rfl) (hs3 : starEach [e3] X.env = (false, eval e3 X.env) :: starEach [] X.env := by rfl) (hpl : (backTo pos (starEach [e2, e3] X.env)).any (·.1) = false := by rfl) :
    ItS X H0 env tg (.Call (.Name "range" p) [e, e2, e3] [] pos) n (fun m => .int (i + (m : Nat) * c)) := ⟨_, pi_range3 hg hm (ea_cons he (ea_cons he2 (ea_cons he3 ea_nil hs3) hs2) hs) hs hpl, fun B σ H R S q => ⟨S.e, fun vs H1 s1 d1 => by
  cases d1 with
  | cons a b =>
    cases b with
    | cons b d =>
      cases d with
      | cons d x =>
        cases x
        cases a
        cases b
        cases d
        refine ⟨i, j, c, n, rfl, hn, q _ H1 B _ _ s1 (S.grow s1) walk_rangeC (fun _ _ => trivial) fun m H' x H'' hi sB hy => ?_⟩
        obtain ⟨rfl, rfl⟩ := hy
        exact ⟨Same.refl _, .int _⟩⟩⟩
end
end Sw

/-! own dicts whose keys are tuples -/
namespace Sw
open PySem PySem.Spec PyProof.Rows L2
def kvl : Key → PyData
  | .inl i => .int i
  | .inr s => .str s
def kD (k : List Key) : PyData := .tuple (k.map kvl)
def mval (kvs : List (List Key × PyData)) (k : List Key) : Option PyData := (kvs.find? fun kv => decide (kv.1 = k)).map (·.2)
def mput (kvs : List (List Key × PyData)) (k : List Key) (d : PyData) : List (List Key × PyData) :=
  if (kvs.any fun kv => decide (kv.1 = k)) = true then kvs.map (fun kv => if kv.1 = k then (kv.1, d) else kv) else kvs ++ [(k, d)]
section
variable {K : PySem.W.Frag} {H : Hp}
theorem kD_all : ∀ {k : List Key} {vs : List V}, RpAll K H vs (k.map kvl) → vs = k.map kV
  | [], _, .nil => rfl
  | .inl i :: k, _, .cons h t => by
    cases h
    rw [kD_all t]
    rfl
  | .inr i :: k, _, .cons h t => by
    cases h
    rw [kD_all t]
    rfl
theorem kD_tup {k : List Key} {v : V} (h : Rp K H v (kD k)) : ∃ b, v = .ref b ∧ H b = some (.tup (k.map kV)) := by
  cases h with
  | tup hs ha => exact ⟨_, rfl, by rw [← kD_all ha]; exact hs⟩
theorem KvD.val {kv : List (List Key × V)} {kvs : List (List Key × PyData)} (h : KvD K H kv kvs) (k : List Key) : (valV kv k = none ∧ mval kvs k = none) ∨ ∃ v d, valV kv k = some v ∧ mval kvs k = some d ∧ Rp K H v d := by
  induction h with
  | nil => exact .inl ⟨rfl, rfl⟩
  | @cons p q ps qs h t ih =>
    obtain ⟨h1, h2⟩ := h
    by_cases e : p.1 = k
    · refine .inr ⟨p.2, q.2, valV_pos e, ?_, h2⟩
      unfold mval
      rw [List.find?_cons_of_pos (by rw [← h1, e]; simp)]
      rfl
    · have e2 : mval (q :: qs) k = mval qs k := by
        unfold mval
        rw [List.find?_cons_of_neg (by rw [← h1]; simpa using e)]
      rw [valV_neg e, e2]
      exact ih
theorem KvD.len : ∀ {kv : List (List Key × V)} {kvs : List (List Key × PyData)}, KvD K H kv kvs → kv.length = kvs.length
  | _, _, .nil => rfl
  | _, _, .cons _ t => by rw [List.length_cons, List.length_cons, KvD.len t]
theorem KvD.any {k : List Key} : ∀ {kv : List (List Key × V)} {kvs : List (List Key × PyData)}, KvD K H kv kvs → (kv.any fun p => decide (p.1 = k)) = (kvs.any fun p => decide (p.1 = k))
  | _, _, .nil => rfl
  | _, _, .cons h t => by rw [List.any_cons, List.any_cons, KvD.any t, h.1]
theorem KvD.snoc {k : List Key} {v : V} {d : PyData} (h : Rp K H v d) : ∀ {kv : List (List Key × V)} {kvs : List (List Key × PyData)}, KvD K H kv kvs → KvD K H (kv ++ [(k, v)]) (kvs ++ [(k, d)])
  | _, _, .nil => .cons ⟨rfl, h⟩ .nil
  | _, _, .cons g t => .cons g (KvD.snoc h t)
theorem KvD.repl {k : List Key} {v : V} {d : PyData} (h : Rp K H v d) : ∀ {kv : List (List Key × V)} {kvs : List (List Key × PyData)}, KvD K H kv kvs → KvD K H (kv.map fun p => if p.1 = k then (p.1, v) else p) (kvs.map fun p => if p.1 = k then (p.1, d) else p)
  | _, _, .nil => .nil
  | p :: _, q :: _, .cons g t => by
    rw [List.map_cons, List.map_cons]
    refine .cons ?_ (KvD.repl h t)
    by_cases e : p.1 = k
    · rw [if_pos e, if_pos (by rw [← g.1, e])]
      exact ⟨g.1, h⟩
    · rw [if_neg e, if_neg (by rw [← g.1]; exact e)]
      exact g
theorem KvD.put {k : List Key} {v : V} {d : PyData} {kv : List (List Key × V)} {kvs : List (List Key × PyData)} (g : KvD K H kv kvs) (h : Rp K H v d) : KvD K H (putK kv k v) (mput kvs k d) := by
  unfold putK mput
  rw [KvD.any g]
  split
  · exact g.repl h
  · exact g.snoc h
theorem vfz_of {kvs : List (List Key × PyData)} : vfz kvs = true ↔ ∀ p ∈ kvs, fz p.2 = true := by
  constructor
  · intro h p hp
    exact fzs_mem h (List.mem_map.mpr ⟨p, hp, rfl⟩)
  · intro h
    exact fzs_of fun d hd => by
      obtain ⟨p, hp, rfl⟩ := List.mem_map.mp hd
      exact h p hp
theorem vfz_put {kvs : List (List Key × PyData)} {k : List Key} {d : PyData} (h : vfz kvs = true) (hd : fz d = true) : vfz (mput kvs k d) = true := by
  rw [vfz_of] at *
  unfold mput
  split
  · intro p hp
    obtain ⟨q, hq, rfl⟩ := List.mem_map.mp hp
    split
    · exact hd
    · exact h q hq
  · intro p hp
    rcases List.mem_append.mp hp with hp | hp
    · exact h p hp
    · rw [List.mem_singleton.mp hp]
      exact hd
end
section
variable {X : Cx} {H0 : Hp} {env : En} {D : Ends} {rest : List Stmt} {e e2 : Expr} {pos px pos' : Pos} {x : Str} {i j : Nat} {kvs : List (List Key × PyData)} {k : List Key} {d d2 : PyData}
/-- name[key] -/
theorem ev_mget (hr : Room j X.A) (hN : nmIx x X.N 0 = some i) (hv : Vis X.env.scope x) (he : env[i]? = some (some (.m kvs))) (hi : Ev X env e (kD k)) (hd : mval kvs k = some d)
    (hs : NoSl e := by exact fun _ _ => rfl) (hb : (x == ("__debug__" : Str)) = false := by decide) (hcd : (x == ("__classdict__" : Str)) = false := by decide) : Ev X env (.Subscript (.Name x px) e pos) d :=
  wkE (pe_dget (hu_of hr) (pe_var (nm0 hN) hv hb hcd) hi hs) fun σ H Q ⟨hE, q⟩ => by
    obtain ⟨v, h1, l, kv, rfl, h3, h4⟩ := hE i _ he
    refine ⟨_, h1, hE, fun y H4 s4 d4 => ?_⟩
    obtain ⟨b, rfl, hb⟩ := kD_tup d4
    rcases KvD.val h4 k with ⟨_, z⟩ | ⟨v, d', g1, g2, g3⟩
    · rw [hd] at z; cases z
    · rw [hd] at g2
      cases g2
      have := DGet.t (s4 _ _ h3) hb
      rw [g1] at this
      exact ⟨l, v, rfl, this, q v H4 s4 (g3.mono s4)⟩
/-- key in name -/
theorem et_min (hr : Room j X.A) (hN : nmIx x X.N 0 = some i) (hv : Vis X.env.scope x) (he : env[i]? = some (some (.m kvs))) (hi : Ev X env e (kD k))
    (hb : (x == ("__debug__" : Str)) = false := by decide) (hcd : (x == ("__classdict__" : Str)) = false := by decide) : EvT X env (.Compare e [.In] [.Name x px] pos) (mval kvs k).isSome :=
  wkT (pt_cmp (pc_din (hu_of hr) hi (pe_var (nm0 hN) hv hb hcd)) rfl) fun σ H Q ⟨hE, q⟩ => ⟨hE, fun y H4 s4 d4 => by
    obtain ⟨v, h1, l, kv, rfl, h3, h4⟩ := hE i _ he
    obtain ⟨b, rfl, hb⟩ := kD_tup d4
    refine ⟨_, h1, l, valV kv k, rfl, DGet.t (s4 _ _ h3) hb, (valV kv k).isSome, rfl, ?_⟩
    rcases KvD.val h4 k with ⟨z1, z2⟩ | ⟨v, d', g1, g2, g3⟩
    · rw [z1]
      have := q H4 s4
      rwa [z2] at this
    · rw [g1]
      have := q H4 s4
      rwa [g2] at this⟩
theorem et_mnotin (hr : Room j X.A) (hN : nmIx x X.N 0 = some i) (hv : Vis X.env.scope x) (he : env[i]? = some (some (.m kvs))) (hi : Ev X env e (kD k))
    (hb : (x == ("__debug__" : Str)) = false := by decide) (hcd : (x == ("__classdict__" : Str)) = false := by decide) : EvT X env (.Compare e [.NotIn] [.Name x px] pos) (!(mval kvs k).isSome) :=
  wkT (pt_cmp (pc_dnotin (hu_of hr) hi (pe_var (nm0 hN) hv hb hcd)) rfl) fun σ H Q ⟨hE, q⟩ => ⟨hE, fun y H4 s4 d4 => by
    obtain ⟨v, h1, l, kv, rfl, h3, h4⟩ := hE i _ he
    obtain ⟨b, rfl, hb⟩ := kD_tup d4
    refine ⟨_, h1, l, valV kv k, rfl, DGet.t (s4 _ _ h3) hb, !(valV kv k).isSome, rfl, ?_⟩
    rcases KvD.val h4 k with ⟨z1, z2⟩ | ⟨v, d', g1, g2, g3⟩
    · rw [z1]
      have := q H4 s4
      rwa [z2] at this
    · rw [g1]
      have := q H4 s4
      rwa [g2] at this⟩
/-- name.get(key, other) -/
theorem ev_mget2 {apos : Pos} (hr : Room j X.A) (hN : nmIx x X.N 0 = some i) (hv : Vis X.env.scope x) (he : env[i]? = some (some (.m kvs))) (hi : Ev X env e (kD k)) (h2 : Ev X env e2 d2)
    (hb : (x == ("__debug__" : Str)) = false := by decide) (hcd : (x == ("__classdict__" : Str)) = false := by decide)
    (b1 : attributeBase (.Name x px) "get" X.env (eval (.Name x px) X.env) = eval (.Name x px) X.env := by rfl)
    (b2 : ((backTo pos (starEach [e, e2] X.env)).all (fun x => !x.1) && (backToKw pos (keywordEach [] X.env)).all (fun x => x.1.isSome)
      && decide (([e, e2] : List Expr).length + ([] : List Keyword).length + (if ([] : List Keyword).isEmpty then 0 else 1) < 30)) = true := by rfl)
    (b3 : (apos.endLine == pos.line) = true := by rfl) (b4 : backTo pos (starEach [e, e2] X.env) = [(false, eval e X.env), (false, eval e2 X.env)] := by rfl) : Ev X env (.Call (.Attribute (.Name x px) "get" apos) [e, e2] [] pos) ((mval kvs k).getD d2) :=
  wkE (pe_dget2 (hu_of hr) (pe_var (nm0 hN) hv hb hcd) hi h2 ⟨b1, b2, b3, b4⟩) fun σ H Q ⟨hE, q⟩ => by
    obtain ⟨v, h1, l, kv, rfl, h3, h4⟩ := hE i _ he
    refine ⟨_, h1, l, rfl, .inr ⟨kv, .inl h3⟩, hE, fun y H4 s4 d4 => ⟨hE.mono s4, fun z H5 s5 d5 => ?_⟩⟩
    obtain ⟨b, rfl, hb⟩ := kD_tup d4
    refine ⟨valV kv k, DGet.t (s5 _ _ (s4 _ _ h3)) (s5 _ _ hb), ?_⟩
    rcases KvD.val h4 k with ⟨z1, z2⟩ | ⟨v, d', g1, g2, g3⟩
    · rw [z1]
      rw [z2] at q
      exact q z H5 (s4.trans s5) d5
    · rw [g1]
      rw [g2] at q
      exact q v H5 (s4.trans s5) (g3.mono (s4.trans s5))
/-- name[key] = value -/
theorem run_mput (hr : Room j X.A) (hN : nmIx x X.N 0 = some i) (hv : Vis X.env.scope x) (he : env[i]? = some (some (.m kvs))) (hi : Ev X env e (kD k)) (h2 : Ev X env e2 d) (hf : fz d = true) (hz : kvs.length ≤ 1000000)
    (kk : Run X H0 (env.set i (some (.m (mput kvs k d)))) rest D)
    (hb : (x == ("__debug__" : Str)) = false := by decide) (hcd : (x == ("__classdict__" : Str)) = false := by decide)
    (hs : swapsWith e2 (some (.Subscript (.Name x px) e pos')) pos.line X.env = pure false := by rfl) (no : noObj env = true := by rfl) : Run X H0 env (.Assign [.Subscript (.Name x px) e pos'] e2 pos :: rest) D :=
  run_cons (ps_dput (hu_of hr) (pe_var (nm0 hN) hv hb hcd) hi h2 hs) fun B σ H S => ⟨S.e, fun v H1 s1 d1 => by
    obtain ⟨u, h1, l, kv, rfl, hB, h3, h4, h5⟩ := S.sl i _ he
    refine ⟨_, h1, S.e.mono s1, fun y H2 s2 d4 => ?_⟩
    obtain ⟨b, rfl, hb⟩ := kD_tup d4
    have s12 := s1.trans s2
    refine ⟨l, _, rfl, DPut.t (s12 _ _ h3) hb (by rw [KvD.len h4]; exact Nat.lt_of_le_of_lt hz (by decide)), kk B σ _ ?_⟩
    have S1 := S.grow s12
    have kp : Keep H2 (upd H2 l (.dT (putK kv k v))) := keep_upd (s12 _ _ h3) (fun xs z => by cases z)
    exact S1.chg he rfl h1 hB (s12 _ _ h3) (fun xs z => by cases z) ⟨l, _, rfl, hB, upd_same, KvD.put (KvD.keep kp h5 (h4.mono s12)) (dkeep kp _ _ hf (d1.mono s2)), vfz_put h5 hf⟩ no⟩
end
end Sw

/-! dicts that are handed back and stand still; extend; slices with a step; order of pairs -/
namespace Sw
open PySem PySem.Spec PyProof.Rows L2
open PySem.W (EachIs AllAlike Sortable dataLe alike)
/-- a dict whose keys are tuples, standing still -/
def mFix (kvs : List (List Key × PyData)) : Fix where
  p K H v := ∃ l kv, v = .ref l ∧ H l = some (.dT kv) ∧ KvD K H kv kvs
  mono := fun ⟨l, kv, e, h, g⟩ s => ⟨l, kv, e, s _ _ h, g.mono s⟩
def tM (K : PySem.W.Frag) (env : En) (kvs : List (List Key × PyData)) : TE := fun σ H Q => EnvE K H σ env ∧ ∀ l kv H', Same H H' → H l = none → H' l = some (.dT kv) → KvD K H' kv kvs → Q (.ref l) H'
abbrev EvM (X : Cx) (env : En) (e : Expr) (kvs : List (List Key × PyData)) : Prop := PE X e (tM X.K env kvs)
def spM (K : PySem.W.Frag) (R : List PyData → List (List Key × PyData) → Prop) : Sp := fun vs H Q _ => ∃ ds r, RpAll K H vs ds ∧ R ds r ∧ ∀ l kv H', Same H H' → H l = none → H' l = some (.dT kv) → KvD K H' kv r → Q (.ref l) H'
def RtM (K : PySem.W.Frag) (H0 : Hp) (D : Ends) (r : List (List Key × PyData)) : Prop := ∀ l kv H', Same H0 H' → H0 l = none → H' l = some (.dT kv) → KvD K H' kv r → D.rt (.ref l) H'
section
variable {X : Cx} {H0 : Hp} {env : En} {D : Ends} {rest : List Stmt} {e e2 : Expr} {es : List Expr} {pos px pos' p : Pos} {x : Str} {i j : Nat} {kvs : List (List Key × PyData)} {k : List Key} {d d2 : PyData}
theorem run_retM (hN : nmIx x X.N 0 = some i) (hv : Vis X.env.scope x) (hi : env[i]? = some (some (.m kvs))) (h : RtM X.K H0 D kvs) (hd : (x == ("__debug__" : Str)) = false := by decide) (hcd : (x == ("__classdict__" : Str)) = false := by decide) :
    Run X H0 env (.Return (some (.Name x px)) pos :: rest) D := run_cons (ps_ret (pe_var (nm0 hN) hv hd hcd)) fun B σ H S => by
  obtain ⟨v, hv, l, kv, rfl, hB, hl, hd, hf⟩ := S.sl i _ hi
  exact ⟨_, hv, h l kv H (S.e0.trans S.e1) (S.e0.free hB) hl hd⟩
theorem evm_call {k j : Nat} {R : List PyData → List (List Key × PyData) → Prop} {ds : List PyData} {r : List (List Key × PyData)} (c : Cd X.prog X.w X.K X.mg X.base k x (spM X.K R)) (hr : Room j X.A) (hk : k ≤ j) (hg : Gl X x) (ha : EvA X env (e :: es) ds) (hR : R ds r)
    (hdb : (x == ("__debug__" : Str)) = false := by decide) (he : starEach (e :: es) X.env = (false, eval e X.env) :: starEach es X.env := by rfl) (hpl : (backTo pos (starEach es X.env)).any (·.1) = false := by rfl) :
    EvM X env (.Call (.Name x p) (e :: es) [] pos) r := by
  obtain ⟨f, fd, ps, F, hm, hk', hb⟩ := c.ex
  refine wkE (pe_call F (hr.mono hk) hg hm hk' hb .nil pass0 ha hdb he hpl) fun σ H Q ⟨hE, q⟩ => ⟨hE, fun vs H1 s1 d1 => ?_⟩
  show spM X.K R (vs ++ []) H1 Q E0
  rw [List.append_nil]
  exact ⟨ds, r, d1, hR, fun l us H2 s2 hl h2 d2 => q l us H2 (s1.trans s2) (s1.free hl) h2 d2⟩
theorem run_setMD (hi : nmIx x X.N 0 = some i) (hN : X.N.Nodup) (hx : Loc X.env.scope x) (he : EvM X env e kvs) (hf : noOwn env = true) (k : Run X H0 (env.set i (some (.g (mFix kvs)))) rest D)
    (hs : swapsWith e (some (.Name x pos')) pos.line X.env = pure false := by rfl) (hf' : X.fn x = true ∨ X.env.scope.names.lookup x = some .local := by first | exact .inl rfl | exact .inr rfl) :
    Run X H0 env (.Assign [.Name x pos'] e pos :: rest) D := run_cons (ps_set hN (nm0 hi) hx he hs hf') fun B σ H S => ⟨S.e, fun l kv H1 s1 hl h1 d1 => k H1 _ _ ((S.all hf s1).put (s := .g (mFix kvs)) ⟨l, kv, rfl, h1, d1⟩ fun z => by cases z)⟩
/-- name[key], the dict standing still -/
theorem ev_gget (hr : Room j X.A) (hN : nmIx x X.N 0 = some i) (hv : Vis X.env.scope x) (he : env[i]? = some (some (.g (mFix kvs)))) (hi : Ev X env e (kD k)) (hd : mval kvs k = some d)
    (hs : NoSl e := by exact fun _ _ => rfl) (hb : (x == ("__debug__" : Str)) = false := by decide) (hcd : (x == ("__classdict__" : Str)) = false := by decide) : Ev X env (.Subscript (.Name x px) e pos) d :=
  wkE (pe_dget (hu_of hr) (pe_var (nm0 hN) hv hb hcd) hi hs) fun σ H Q ⟨hE, q⟩ => by
    obtain ⟨v, h1, l, kv, rfl, h3, h4⟩ := hE i _ he
    refine ⟨_, h1, hE, fun y H4 s4 d4 => ?_⟩
    obtain ⟨b, rfl, hb⟩ := kD_tup d4
    rcases KvD.val h4 k with ⟨_, z⟩ | ⟨v, d', g1, g2, g3⟩
    · rw [hd] at z; cases z
    · rw [hd] at g2
      cases g2
      have := DGet.t (s4 _ _ h3) hb
      rw [g1] at this
      exact ⟨l, v, rfl, this, q v H4 s4 (g3.mono s4)⟩
end
/-- a promise of a dict -/
theorem cdM {P : Program} {w : World} {K : PySem.W.Frag} {mg : Str → Option Value} {base : Heap} {x : Str} {st : Stmt} {N ps : List Str} {k : Nat} {R : List PyData → List (List Key × PyData) → Prop} (F : Df K mg x st ps) (S : FnScope N ps (defScope st)) (hl : ∀ ds r, R ds r → ds.length = ps.length)
    (body : ∀ (f : Addr) (cdv : Value) (A : Around) (outer : List Env) (s : Shared) (H : Hp) (E : XK), Room k (CxD P w K mg base N x st f cdv A outer s H E).A → (CxD P w K mg base N x st f cdv A outer s H E).N.Nodup → ∀ (ds : List PyData) (r : List (List Key × PyData)) (D : Ends), R ds r → RtM K H D r →
      Run (CxD P w K mg base N x st f cdv A outer s H E) H (env0 N.length ds) (defBody st) D) : Cd P w K mg base (k + 1) x (spM K R) := by
  obtain ⟨f, fd, hF, hm, hb⟩ := F.ex
  refine ⟨f, fd, ps, ?_, hm, hF.kp, hb⟩
  refine hF.ok S (fun vs H Q E h => ?_) (fun cdv A outer s H vs Q E hr h => ?_)
  · obtain ⟨ds, r, hd, hR, _⟩ := h
    rw [RpAll.len hd, hl ds r hR]
  · obtain ⟨ds, r, hd, hR, q⟩ := h
    exact body f cdv A outer s H E hr S.nd ds r { nx := fun _ H' => Q .non H', rt := Q } hR q H _ H (st0 hd)
/-! sorted(d) -/
section
variable {X : Cx} {k : Nat}
theorem kD_rp {K : PySem.W.Frag} {H : Hp} {b : Addr} {k : List Key} (h : H b = some (.tup (k.map kV))) : Rp K H (.ref b) (kD k) := by
  refine .tup h ?_
  have key : ∀ k : List Key, RpAll K H (k.map kV) (k.map kvl) := by
    intro k
    induction k with
    | nil => exact .nil
    | cons x k ih =>
      cases x with
      | inl i => exact .cons (.int i) ih
      | inr s => exact .cons (.str s) ih
  exact key k
theorem isKeys_rp {K : PySem.W.Frag} {H : Hp} {kvs : List (List Key × PyData)} : ∀ {kv : List (List Key × V)} {bs : List Addr}, IsKeys H kv bs → ∀ {kvs : List (List Key × PyData)}, KvD K H kv kvs → RpAll K H (bs.map V.ref) (kvs.map fun p => kD p.1)
  | _, _, .nil, _, .nil => .nil
  | _, _, .cons h t, _, .cons g u => .cons (by show Rp K H _ (kD _); rw [← g.1]; exact kD_rp h) (isKeys_rp (kvs := kvs) t u)
theorem call_sortedM {kvs : List (List Key × PyData)} (hr : Room k X.A) (hc : X.calm = true) (hal : AllAlike (kvs.map fun p => kD p.1)) (hk : Sortable (kvs.map fun p => kD p.1)) :
    CallR X (.builtin "sorted") (fun vs H Q => ∃ a kv, vs = [.ref a] ∧ Rd H a (.dT kv) ∧ KvD X.K H kv kvs ∧ ∀ ys p, RpAll X.K H ys (srt (kvs.map fun p => kD p.1)) → H p = none → Q (.ref p) (upd H p (.lst ys))) := by
  intro pins s σ H vs us Q I r h
  obtain ⟨a, kv, rfl, hd, hkv, q⟩ := h
  obtain ⟨u, rfl, ru⟩ := vals1 r
  obtain rfl : u = Value.ref a := ru
  obtain ⟨z, hs, ks, pr, o, es, ep, ho, hx, hdt, he, hn⟩ := (show ObjOk X.prog X.w H s.heap a (.dT kv) from hd.ok I.hok)
  have l1 : es.size = ks.length := size_of_entries he
  have l2 : kv.length = ks.length := Paired.length pr
  have hl : kvs.length = kv.length := (KvD.len hkv).symm
  refine sorted_core I (xs := (ks.map fun x => x.2.1).map V.ref) (isKeys_rp (kvs := kvs) (isKeys_of pr) hkv) (noDs_of fun d hd => ?_) hal hk (by rw [List.length_map]; omega) (fun d hd => room_depth hr ?_) (fun R E hR => ?_) q
  · obtain ⟨p, _, rfl⟩ := List.mem_map.mp hd
    unfold kD
    simp only [noD]
    exact noDs_of fun d hd => by
      obtain ⟨x, _, rfl⟩ := List.mem_map.mp hd
      cases x <;> simp [kvl, noD]
  · obtain ⟨p, _, rfl⟩ := List.mem_map.mp hd
    have : ∀ l : List Key, PyData.depthAll (l.map kvl) ≤ 1 := by
      intro l
      induction l with
      | nil => simp [PyData.depthAll]
      | cons x l ih =>
        simp only [List.map_cons, PyData.depthAll]
        cases x <;> simp [kvl, PyData.depth] <;> omega
    have := this p.1
    unfold kD
    simp only [PyData.depth]
    omega
  · refine PySem.W.kdu_collect (kdl_raw hs hx hdt) (I.ok.hd hc) ho (by omega) fun h' tk acc' kp it => ?_
    have ea : acc'.toList = (ks.map fun x => x.2.1).map Value.ref := by
      have hl2 : acc'.toList.length = ks.length := by rw [Array.length_toList, it.1]; exact l1
      apply List.ext_getElem?
      intro j
      rw [List.getElem?_map, List.getElem?_map]
      cases hj : acc'.toList[j]? with
      | none =>
        have h1 := List.getElem?_eq_none_iff.mp hj
        rw [List.getElem?_eq_none (by omega)]
        rfl
      | some v =>
        obtain ⟨en, hen, hv⟩ := it.2 j v (by rw [← Array.getElem?_toList]; exact hj)
        have qe := entry_at he j
        rw [hen] at qe
        cases hb : ks[j]? with
        | none =>
          rw [hb] at qe
          exact nomatch (show some en = none from qe)
        | some b =>
          rw [hb] at qe
          have e2 : en = entryOfKey (tupleKind (mixKind X.prog X.w)) b := Option.some.inj qe
          rw [hv, e2]
          rfl
    exact hR h' tk _ kp (by rw [ea]; exact vals_refs _)
end
section
variable {X : Cx} {H0 : Hp} {env : En} {D : Ends} {rest : List Stmt} {e e2 : Expr} {es : List Expr} {pos px pos' p : Pos} {x : Str} {i j : Nat} {kvs : List (List Key × PyData)}
theorem evl_sortedG (hr : Room j X.A) (hc : X.calm = true) (hal : AllAlike (kvs.map fun p => kD p.1)) (hk : Sortable (kvs.map fun p => kD p.1)) (hg : Gl X "sorted") (hm : X.mg "sorted" = none) (hN : nmIx x X.N 0 = some i) (hv : Vis X.env.scope x) (he : env[i]? = some (some (.g (mFix kvs))))
    (hb : (x == ("__debug__" : Str)) = false := by decide) (hcd : (x == ("__classdict__" : Str)) = false := by decide)
    (hs : starEach [.Name x px] X.env = (false, eval (.Name x px) X.env) :: starEach [] X.env := by rfl) (hpl : (backTo pos (starEach [] X.env)).any (·.1) = false := by rfl) : EvL X env (.Call (.Name "sorted" p) [.Name x px] [] pos) (srt (kvs.map fun p => kD p.1)) :=
  wkE (pe_callB (call_sortedM hr hc hal hk) hg hm b_sorted (pa_cons (pe_var (nm0 hN) hv hb hcd) (ea_nil (env := env)) hs) (by decide) (by decide) hs hpl) fun σ H Q ⟨hE, q⟩ => by
    obtain ⟨v, h1, l, kv, rfl, h3, h4⟩ := hE i _ he
    refine ⟨_, h1, hE, fun us H2 s2 d2 => ?_⟩
    cases d2
    exact ⟨l, kv, rfl, .inl (s2 _ _ h3), h4.mono s2, fun ys p hy hp => q p ys _ (s2.trans (same_new hp)) (s2.free hp) upd_same (hy.mono (same_new hp))⟩
/-- name.extend(list) -/
theorem run_ext {ds zs : List PyData} {apos cpos : Pos} (hN : nmIx x X.N 0 = some i) (hv : Vis X.env.scope x) (hi : env[i]? = some (some (.l ds))) (he : EvL X env e zs) (hf : fzs zs = true) (hz : ds.length + zs.length ≤ 1000000) (k : Run X H0 (env.set i (some (.l (ds ++ zs)))) rest D)
    (hd : (x == ("__debug__" : Str)) = false := by decide) (hcd : (x == ("__classdict__" : Str)) = false := by decide)
    (hs : swapsWith (.Call (.Attribute (.Name x p) "extend" apos) [e] [] cpos) none pos.line X.env = pure false := by rfl)
    (hse : starEach [e] X.env = (false, eval e X.env) :: starEach [] X.env := by rfl)
    (hbase : attributeBase (.Name x p) "extend" X.env (eval (.Name x p) X.env) = eval (.Name x p) X.env := by rfl)
    (hfew : ((backTo cpos (starEach [e] X.env)).all (fun x => !x.1) && (backToKw cpos (keywordEach [] X.env)).all (fun x => x.1.isSome)
      && decide ([e].length + ([] : List Keyword).length + (if ([] : List Keyword).isEmpty then 0 else 1) < 30)) = true := by rfl)
    (hline : (apos.endLine == cpos.line) = true := by rfl) (hplain : (backTo cpos (starEach [] X.env)).any (·.1) = false := by rfl) (no : noObj env = true := by rfl) :
    Run X H0 env (.Expr (.Call (.Attribute (.Name x p) "extend" apos) [e] [] cpos) pos :: rest) D :=
  run_cons (ps_expr (pe_bm PySem.F.plainAttrs_list PySem.F.slot_list_extend PySem.F.type_list_extend mt_extend (pe_var (nm0 hN) hv hd hcd) (pa_cons he (ea_nil (env := env)) hse) hbase hfew hline hse hplain) hs) fun B σ H S => by
    obtain ⟨v, hv, l, vs, rfl, hB, hl, hd, hfs⟩ := S.sl i _ hi
    refine ⟨_, hv, .inl ⟨rfl, _, .of hl⟩, S.e, fun b us H1 s1 hb h1 d1 => ⟨S.e.mono s1, fun ws H2 s2 d2 => ?_⟩⟩
    cases d2
    have s12 := s1.trans s2
    refine ⟨l, b, vs, us, rfl, rfl, s12 _ _ hl, s2 _ _ h1, ?_, k B σ _ ?_⟩
    · rw [RpAll.len hd, RpAll.len d1]
      exact Nat.le_trans hz (by decide)
    · have S1 := S.grow s12
      have kp : Keep H2 (upd H2 l (.lst (vs ++ us))) := keep_upd (s12 _ _ hl) (fun xs z => by cases z)
      exact S1.chg hi rfl hv hB (s12 _ _ hl) (fun xs z => by cases z) ⟨l, _, rfl, hB, upd_same, .append (dkeeps kp _ _ hfs (hd.mono s12)) (dkeeps kp _ _ hf (d1.mono s2)), by rw [fzs_append, hfs, hf]; rfl⟩ no
end
/-! slices with a step -/
def stepIx (n : Nat) (i k : Int) : List Nat := sliceRange (sliceBounds (some i) none (some k) n).1 (sliceBounds (some i) none (some k) n).2.1 (sliceBounds (some i) none (some k) n).2.2
theorem rp_pick {K : PySem.W.Frag} {H : Hp} {vs : List V} {ds : List PyData} (h : RpAll K H vs ds) : ∀ idx : List Nat, RpAll K H (idx.filterMap (vs[·]?)) (idx.filterMap (ds[·]?))
  | [] => .nil
  | j :: idx => by
    rw [List.filterMap_cons, List.filterMap_cons]
    cases q : ds[j]? with
    | none =>
      have : vs[j]? = none := by
        rw [List.getElem?_eq_none_iff] at q ⊢
        rw [RpAll.len h]
        exact q
      rw [this]
      exact rp_pick h idx
    | some d =>
      obtain ⟨v, hv, r⟩ := RpAll.get h q
      rw [hv]
      exact .cons r (rp_pick h idx)
theorem vals_pick {xs : List V} {us : List Value} (h : Vals xs us) : ∀ idx : List Nat, Vals (idx.filterMap (xs[·]?)) (idx.filterMap (us[·]?))
  | [] => .nil
  | j :: idx => by
    rw [List.filterMap_cons, List.filterMap_cons]
    cases q : xs[j]? with
    | none =>
      have : us[j]? = none := by
        rw [List.getElem?_eq_none_iff] at q ⊢
        rw [← h.length]
        exact q
      rw [this]
      exact vals_pick h idx
    | some d =>
      obtain ⟨v, hv, r⟩ := h.get q
      rw [hv]
      exact .cons r (vals_pick h idx)
theorem stepIx_len (n : Nat) (i k : Int) : (stepIx n i k).length ≤ n := by
  unfold stepIx
  refine sliceRange_length_le _ _ _ _ (fun hc => ?_) fun hc => ?_
  · simp only [sliceBounds] at hc ⊢
    simp only [hc, if_true]
    exact ⟨by omega, by omega⟩
  · simp only [sliceBounds] at hc ⊢
    simp only [hc, if_false]
    exact ⟨by omega, by omega⟩
theorem pick_len {α : Type} (xs : List α) (n : Nat) (i k : Int) (hk : k ≠ 0) (hn : n = xs.length) (hL : xs.length ≤ 1000000) : ((stepIx n i k).filterMap (xs[·]?)).length ≤ sizeLine := by
  have h1 := List.length_filterMap_le (xs[·]?) (stepIx n i k)
  have h2 := stepIx_len n i k
  exact Nat.le_trans h1 (Nat.le_trans h2 (by rw [hn]; exact Nat.le_trans hL (by decide)))
theorem evl_slStep {X : Cx} {env : En} {e lo st : Expr} {ds : List PyData} {i k : Int} {p3 pos : Pos} (he : Ev X env e (.list ds)) (hl : Ev X env lo (.int i)) (hst : Ev X env st (.int k)) (hk : k ≠ 0) (hL : ds.length ≤ 1000000) : EvL X env (.Subscript e (.Slice (some lo) none (some st) p3) pos) ((stepIx ds.length i k).filterMap (ds[·]?)) := by
  refine ⟨fun pins s σ H Q I h => ?_⟩
  obtain ⟨hE, q⟩ := h
  refine Subscript_ (thn (he.run pins s σ H (fun v H1 => Same H H1 ∧ Rp X.K H1 v (.list ds)) I ⟨hE, fun v H1 s1 d1 => ⟨s1, d1⟩⟩) fun v s1 ⟨x, H1, I1, r1, ss1, d1⟩ => ?_)
  cases d1 with
  | lst hx ha =>
    rename_i a xs
    cases r1
    refine wpAny_Slice (thn ((evp_some hl).run pins s1 σ H1 (fun o H2 => o = some i ∧ Same H1 H2) I1 ⟨hE.mono ss1, fun H' s' => ⟨rfl, s'⟩⟩) fun vl s2 ⟨l, H2, I2, pl, el, ss2⟩ => ?_)
    subst el
    refine thn (po_none.run pins s2 σ H2 (fun o H3 => o = none ∧ H3 = H2) I2 ⟨rfl, rfl⟩) fun vu s3 ⟨u, H3, I3, pu, eu, e3⟩ => ?_
    subst eu e3
    refine thn ((evp_some hst).run pins s3 σ H3 (fun o H4 => o = some k ∧ Same H3 H4) I3 ⟨hE.mono (ss1.trans ss2), fun H' s' => ⟨rfl, s'⟩⟩) fun vs s4 ⟨o, H4, I4, ps, eo, ss4⟩ => ?_
    subst eo
    have I5 : Inv X pins σ H4 { s4 with heap := s4.heap.push { cls := .type "slice", data := .fields #[vl, vu, vs] } } := I4.kept (t' := s4.toks) fun b ob q => Heap.get?_push_of_some _ q
    obtain ⟨its, r, ht, hz⟩ := I5.list ((ss2.trans ss4).seq hx)
    have hlen := r.length
    have hdl := RpAll.len ha
    show wpAny (model X.prog X.w) X.A (subscriptTail e (.Slice (some lo) none (some st) p3) (.ref a) (.ref s4.heap.objs.size)) (EP X pins σ Q) X.xe { s4 with heap := s4.heap.push { cls := .type "slice", data := .fields #[vl, vu, vs] } }
    refine tail_any (ops := [.ref a, .ref s4.heap.objs.size]) ht.isList.typeIs (PySem.slot_list_getitem.lookup) ?_ (by with_unfolding_all rfl)
    refine wpAny_getItem_list_slice ht.isList (Heap.IsSliceOf.new _ vl vu vs) pl pu ps (by simpa using hk) ?_ (by rw [List.size_toArray]; omega)
    have hfree : H4 s4.heap.objs.size = none := I4.hok.fresh (Nat.le_refl _)
    have hi : H4 _ = none := I5.hok.fresh (Nat.le_refl _)
    have e1 : slicePick its.toArray (some i) none (some k) = ((stepIx ds.length i k).filterMap (its[·]?)).toArray := by
      unfold slicePick stepIx
      rw [List.size_toArray, ← hlen, hdl]
      simp
    rw [e1]
    refine ⟨.ref _, _, I5.laid (t' := s4.toks) (o := .lst ((stepIx ds.length i k).filterMap (xs[·]?))) (fun b ob q => Heap.get?_push_of_some _ q) (Nat.le_refl _) ?_, rfl, q _ _ _ (ss1.trans (ss2.trans (ss4.trans (same_new hi)))) ((ss1.trans (ss2.trans ss4)).free hi) upd_same ((rp_pick ha _).mono (ss2.trans (ss4.trans (same_new hi))))⟩
    exact ⟨pick_len xs ds.length i k hk hdl.symm (by rw [hdl]; exact hL), _, 0, vals_pick r _, Heap.get?_push_size _ rfl⟩
theorem pick_mem {α : Type} {xs : List α} {idx : List Nat} {x : α} (h : x ∈ idx.filterMap (xs[·]?)) : x ∈ xs := by
  obtain ⟨j, _, hj⟩ := List.mem_filterMap.mp h
  exact List.mem_of_getElem? hj
/-! list + list -/
theorem op_addLL {X : Cx} : OpR X (binaryOp .Add) (fun x y H Q => ∃ a b xs ys, x = .ref a ∧ y = .ref b ∧ SqL X.K H a xs ∧ SqL X.K H b ys ∧ xs.length + ys.length ≤ sizeLine ∧ ∀ p, H p = none → Q (.ref p) (upd H p (.lst (xs ++ ys)))) := by
  intro pins s σ H x y v u Q I rx ry h
  obtain ⟨a, b, xs, ys, rfl, rfl, ha, hb, hz, q⟩ := h
  cases rx
  cases ry
  obtain ⟨its, rv, p1, _⟩ := I.list ha
  obtain ⟨its2, rv2, p2, _⟩ := I.list hb
  obtain ⟨⟨cls, dd, data, sl⟩, ho, hc, n, hd⟩ := id p1.isList
  obtain ⟨⟨cls2, dd2, data2, sl2⟩, ho2, hc2, n2, hd2⟩ := id p2.isList
  simp only at hc hd hc2 hd2
  subst hc hd hc2 hd2
  have e : its.toArray ++ its2.toArray = (its ++ its2).toArray := by simp
  refine concat_meets ⟨_, ho, rfl⟩ ⟨_, ho2, rfl⟩ noFill_list_add seq_list_add PySem.F.slot_list_add PySem.F.entry_list_add (PySem.F.args_list_add_2 _ _) (list_addW a b its.toArray its2.toArray n n2 dd dd2 sl sl2 (by rw [List.size_toArray, List.size_toArray, ← rv.length, ← rv2.length]; exact hz)) ⟨ho, ho2, ?_⟩
  rw [e]
  have hn : H s.heap.objs.size = none := I.hok.fresh (Nat.le_refl _)
  exact ⟨.ref _, _, I.laid (t' := s.toks) (o := .lst (xs ++ ys)) (fun b ob q => Heap.get?_push_of_some _ q) (Nat.le_refl _) ⟨by rw [List.length_append]; exact hz, _, 0, rv.append rv2, Heap.get?_push_size _ rfl⟩, rfl, q _ hn⟩
theorem evl_addLL {X : Cx} {env : En} {a b : Expr} {pos : Pos} {xs ys : List PyData} (ha : Ev X env a (.list xs)) (hb : Ev X env b (.list ys)) (hz : xs.length + ys.length ≤ 1000000) : EvL X env (.BinOp a .Add b pos) (xs ++ ys) :=
  wkE (pe_op op_addLL ha hb) fun σ H Q ⟨hE, q⟩ => ⟨hE, fun v H1 s1 d1 => ⟨hE.mono s1, fun u H2 s2 d2 => by
    cases d1 with
    | lst h1 h2 =>
      cases d2 with
      | lst h3 h4 =>
        refine ⟨_, _, _, _, rfl, rfl, s2.seq h1, h3, ?_, fun p hp => q p _ _ (s1.trans (s2.trans (same_new hp))) ((s1.trans s2).free hp) upd_same ((RpAll.append (h2.mono s2) h4).mono (same_new hp))⟩
        rw [RpAll.len h2, RpAll.len h4]
        exact Nat.le_trans hz (by decide)⟩⟩
/-! the order of pairs -/
def ltP2 (p q : Int × Int) : Prop := p.1 < q.1 ∨ (p.1 = q.1 ∧ p.2 < q.2)
instance (p q : Int × Int) : Decidable (ltP2 p q) := by unfold ltP2; infer_instance
theorem op_geP {X : Cx} (hu : X.A.units < cLine) : OpR X (compareOp .GtE) (fun x y H Q => ∃ (a b : Addr) (p q : Int × Int), x = .ref a ∧ y = .ref b ∧ H a = some (.tup [.int p.1, .int p.2]) ∧ H b = some (.tup [.int q.1, .int q.2]) ∧ Q (.bl (decide (¬ ltP2 p q))) H) := by
  intro pins s σ H x y v u Q I rx ry h
  obtain ⟨a, b, p, q, rfl, rfl, ha, hb, k⟩ := h
  cases rx
  cases ry
  obtain ⟨its, r1, p1, _⟩ := I.tuple (.of ha)
  obtain ⟨its2, r2, p2, _⟩ := I.tuple (.of hb)
  have i1 : IntsAre its [p.1, p.2] := Vals.ints (ns := [p.1, p.2]) r1
  have i2 : IntsAre its2 [q.1, q.2] := Vals.ints (ns := [q.1, q.2]) r2
  have e1 : its.toArray.size = 2 := by rw [List.size_toArray]; exact i1.length
  have e2 : its2.toArray.size = 2 := by rw [List.size_toArray]; exact i2.length
  have at1 : ∀ j (h1 : j < its.toArray.size), ∃ t, its.toArray[j] = .int ([p.1, p.2].getD j 0) t := fun j h1 => PyProof.Rows.IntsAre.int_at i1 _ _ (by simp at h1; simp [h1])
  have at2 : ∀ j (h1 : j < its2.toArray.size), ∃ t, its2.toArray[j] = .int ([q.1, q.2].getD j 0) t := fun j h1 => PyProof.Rows.IntsAre.int_at i2 _ _ (by simp at h1; simp [h1])
  have R := Ob.RcOp.tuples_ge (A := X.A) (s := s) (e := fun j => decide ([p.1, p.2].getD j 0 = [q.1, q.2].getD j 0)) (r := fun j => decide ([q.1, q.2].getD j 0 ≤ [p.1, p.2].getD j 0)) p1 p2 hu (fun j h1 h2 => by
    obtain ⟨t, et⟩ := at1 j h1
    obtain ⟨t', et'⟩ := at2 j h2
    rw [et, et']
    have z : ([p.1, p.2].getD j 0 == [q.1, q.2].getD j 0) = decide ([p.1, p.2].getD j 0 = [q.1, q.2].getD j 0) := by
      by_cases w : [p.1, p.2].getD j 0 = [q.1, q.2].getD j 0
      · rw [decide_eq_true w]; exact beq_iff_eq.mpr w
      · rw [decide_eq_false w]; exact beq_eq_false_iff_ne.mpr w
    rw [← z]
    exact SeqAt.EqAt.int_int _ _ _ _) (fun j h1 h2 _ => by
    obtain ⟨t, et⟩ := at1 j h1
    obtain ⟨t', et'⟩ := at2 j h2
    rw [et, et']
    exact Ob.RcOp.ge_int _ _ _ _)
  rw [e1, e2] at R
  have e : Ob.lexAt (fun j => decide ([p.1, p.2].getD j 0 = [q.1, q.2].getD j 0)) (fun j => decide ([q.1, q.2].getD j 0 ≤ [p.1, p.2].getD j 0)) (decide (2 ≥ 2)) 0 (min 2 2) = decide (¬ ltP2 p q) := by
    show Ob.lexAt _ _ _ 0 2 = _
    simp only [Ob.lexAt]
    unfold ltP2
    show (if decide (p.1 = q.1) = true then (if decide (p.2 = q.2) = true then decide (2 ≥ 2) else decide (q.2 ≤ p.2)) else decide (q.1 ≤ p.1)) = _
    by_cases h1 : p.1 = q.1
    · by_cases h2 : p.2 = q.2
      · simp [h1, h2]
      · rw [if_pos (decide_eq_true h1), if_neg (by simpa using h2)]
        by_cases h3 : q.2 ≤ p.2
        · rw [decide_eq_true h3, decide_eq_true (by omega)]
        · rw [decide_eq_false h3, decide_eq_false (by omega)]
    · rw [if_neg (by simpa using h1)]
      by_cases h3 : q.1 ≤ p.1
      · rw [decide_eq_true h3, decide_eq_true (by omega)]
      · rw [decide_eq_false h3, decide_eq_false (by omega)]
  rw [e] at R
  have z : wpAny (model X.prog X.w) X.A (compareOp .GtE (.ref a) (.ref b)) (EP X pins σ Q) X.xe s := R X.prog X.w X.xe (EP X pins σ Q) ⟨.bl _, H, I, rfl, k⟩
  exact z
theorem cmp_geP {X : Cx} {k : Nat} {p q : Int × Int} (hr : Room k X.A) : Cmp X .GtE (.tuple [.int p.1, .int p.2]) (.tuple [.int q.1, .int q.2]) (decide (¬ ltP2 p q)) := ⟨_, op_geP hr.units0, fun H v u Q d1 d2 k => by
  cases d1 with
  | tup h1 h2 =>
    cases d2 with
    | tup h3 h4 =>
      have e1 := ints_of (ns := [p.1, p.2]) h2
      have e2 := ints_of (ns := [q.1, q.2]) h4
      subst e1 e2
      exact ⟨_, _, p, q, rfl, rfl, h1, h3, k _ H (Same.refl H) (.bl _)⟩⟩

/-! a look at each item of an own list; two names in a comprehension -/
theorem le_unset (i : Nat) (s : Option SV) : ∀ env : En, Le (env.set i none) (env.set i s) := by
  induction i with
  | zero =>
    intro env
    cases env with
    | nil => exact .nil
    | cons a r => exact .skip (Le.refl r)
  | succ i ih =>
    intro env
    cases env with
    | nil => exact .nil
    | cons a r => exact .keep rfl (ih r)
section
variable {X : Cx} {H0 : Hp} {env : En} {D : Ends} {rest : List Stmt} {st : Stmt} {c : Expr} {x y : Str} {px py p2 pos : Pos} {i j : Nat} {ds : List PyData}
theorem run_forC (hi : nmIx x X.N 0 = some i) (hN : X.N.Nodup) (hx : Loc X.env.scope x) (hj : nmIx y X.N 0 = some j) (hv : Vis X.env.scope y) (he : env[j]? = some (some (.l ds))) (hij : i ≠ j) (hfz : fzs ds = true)
    (hp : PassesOwn (model X.prog X.w) X.A X.env X.xe) (test : ∀ m, m < ds.length → EvT X (env.set i (some (.d (ds.getD m .none)))) c false) (k : Run X H0 (env.set i none) rest D) (hc : X.calm = true := by rfl)
    (hb : (y == ("__debug__" : Str)) = false := by decide) (hcd : (y == ("__classdict__" : Str)) = false := by decide)
    (hf' : X.fn x = true ∨ X.env.scope.names.lookup x = some .local := by first | exact .inl rfl | exact .inr rfl)
    (hfo : ∀ z, foldedSetIterable (.Name y py) X.env z = pure z := by intro _; rfl) : Run X H0 env (.For (.Name x px) (.Name y py) [.If c [st] [] p2] [] pos :: rest) D := by
  refine run_cons (ps_for hp hc (pi_list (pe_var (nm0 hj) hv hb hcd)) (pg_name hN (nm0 hi) hx hf') (tR_ok (X := X) (body := [.If c [st] [] p2])) hfo) fun B σ H S => ?_
  obtain ⟨v, h1, l, vs, rfl, hB, hl, hd, hf⟩ := S.sl j _ he
  refine ⟨_, h1, l, rfl, ⟨vs, .of hl⟩, ?_⟩
  have W : Walk (Itl X.K l) ds.length (fun H' => ∃ vs', H' l = some (.lst vs') ∧ RpAll X.K H' vs' ds) (fun m H' x H'' => H'' = H' ∧ Rp X.K H' x (ds.getD m .none)) := by
    refine ⟨fun m H' hm q => ?_, fun H' q => ?_, fun m H' x H'' hm q y => ?_⟩
    · obtain ⟨vs', q1, q2⟩ := q
      have hlt : m < vs'.length := by rw [RpAll.len q2]; exact hm
      exact ⟨vs', vs'[m], .of q1, List.getElem?_eq_getElem hlt⟩
    · obtain ⟨vs', q1, q2⟩ := q
      exact ⟨vs', .of q1, by rw [RpAll.len q2]; exact Nat.le_refl _⟩
    · obtain ⟨vs', q1, q2⟩ := q
      obtain ⟨rfl, hy⟩ := y
      exact ⟨rfl, get_ok q2 (hy vs' (.of q1))⟩
  have hsl : (env.set i none)[j]? = some (some (.l ds)) := by rw [List.getElem?_set_ne hij]; exact he
  refine for_it W (fun m σ' H' => StOk X.K H0 B H' σ' (env.set i none) ∧ σ'[j]? = some (some (.ref l))) ⟨?_, h1⟩ ?_ ?_ ?_
  · have := S.le (e' := env.set i none) (by
      have h2 := le_unset i (env.getD i none) env
      have e2 : env.set i (env.getD i none) = env := by
        apply List.ext_getElem?
        intro m
        by_cases e : i = m
        · subst e
          by_cases hlt : i < env.length
          · rw [List.getElem?_set_self hlt, List.getD_eq_getElem?_getD, List.getElem?_eq_getElem hlt]
            rfl
          · rw [List.getElem?_eq_none (by simpa using hlt), List.getElem?_eq_none (by simpa using hlt)]
        · rw [List.getElem?_set_ne e]
      rwa [e2] at h2)
    exact this
  · rintro m σ' H' _ ⟨S', h2⟩
    obtain ⟨v', h3, l', vs', rfl, _, h4, h5, _⟩ := S'.sl j _ hsl
    rw [h2] at h3
    cases h3
    exact ⟨vs', h4, h5⟩
  · rintro m x σ' H' H'' hm ⟨S', h2⟩ ⟨rfl, r⟩
    have hfm : fz (ds.getD m .none) = true := by
      rw [List.getD_eq_getElem?_getD, List.getElem?_eq_getElem hm]
      exact fzs_mem hfz (List.getElem_mem hm)
    have S2 := S'.put (i := i) (s := .d (ds.getD m .none)) (.inr ⟨hfm, r⟩) fun z => by cases z
    rw [List.set_set] at S2
    have h3 : (σ'.set i (some x))[j]? = some (some (.ref l)) := by rw [List.getElem?_set_ne hij]; exact h2
    refine ⟨_, pss_cons (ps_if (test m hm) (tR_ok (X := X) (body := [st])) (tR_ok (X := X) (body := []))) (tR_ok (X := X) (body := [])), S2.e, fun H1 s1 => iteF ⟨_, pss_nil, ⟨_, pss_nil, ?_, h3⟩⟩⟩
    exact (S2.grow s1).le (le_unset i _ env)
  · rintro σ' H' ⟨S', _⟩
    exact k B σ' H' S'
theorem el_comp2 {kt : Nat} {pt : Pos} {iter elt : Expr} {scope sc : Scope} {N ps : List Str} {n : Nat} {u v : Nat → PyData} (S : FnScope N ps sc) (r : Nat → PyData) (hi : nmIx x X.N 0 = some i) (hj : nmIx y X.N 0 = some j) (hN : X.N.Nodup) (hok : blkC N sc scope [(x, i), (y, j)] = true)
    (hI : ItE X env (.Tuple [.Name x px, .Name y py] kt pt) iter n (fun m => .tuple [u m, v m]))
    (hg : ∀ (s : Shared) (H : Hp) (C : Addr) (cl : List (Str × Addr)) (fp : List Addr), PG (X.blk s H scope (compEnvC scope cl C X.env) fp) (.Tuple [.Name x px, .Name y py] kt pt) (gTup X.K 2 (gCons (gName i) (gCons (gName j) gNil))))
    (hfz : ∀ m, m < n → fz (r m) = true) (hlen : n ≤ 1000000)
    (he : ∀ (s : Shared) (H : Hp) (C : Addr) (cl : List (Str × Addr)) (fp : List Addr) m, m < n → Ev (X.blk s H scope (compEnvC scope cl C X.env) fp) ((((env.set j none).set i none).set i (some (.d (u m)))).set j (some (.d (v m)))) elt (r m))
    (hc : X.calm = true := by rfl) (hel : X.N.length = env.length := by rfl) (hfo : ∀ x, foldedSetIterable iter X.env x = pure x := by intro _; rfl) (hnn : X.N = N := by rfl) (hss : X.env.scope = sc := by rfl) :
    EvL X env (.ListComp elt [⟨.Tuple [.Name x px, .Name y py] kt pt, iter, [], 0⟩] scope pos) ((List.range n).map r) :=
  evl_comp [(x, i), (y, j)] r hc hN (hnn ▸ hss ▸ blkOk_by hok) hI hg (ge_tup2 (ge_name i (by simp)) (ge_name j (by simp)) (fun d e => List.length_set ..)) (fun m _ => ⟨_, _, rfl, trivial, trivial⟩) hfz hlen he hel hfo
end
end Sw

/-! instances -/
namespace Sw
open PySem PySem.Spec PyProof.Rows L2
/-- what isinstance asks of an own class -/
structure Ty1 (K : PySem.W.Frag) (C : Addr) : Prop where
  cl : Cls K C
  ha : PySem.W.findIn K (.ref C) "__class__" = some (some (.builtin "object.__class__"))
  hn : PySem.W.specialIn K (.builtin "object.__class__") "__get__" = some (some (.builtin "getset_descriptor.__get__"))
  tk : PySem.W.takesIn K (.builtin "object.__class__") = some true
  mr : PySem.W.mroIn K C (.type "object") = some true
theorem zip_lookup {K : PySem.W.Frag} {H : Hp} {f : Str} {d : PyData} : ∀ {fs : List (Str × V)} {ds : List PyData}, RpAll K H (fs.map (·.2)) ds → ((fs.map (·.1)).zip ds).lookup f = some d → ∃ v, fs.lookup f = some v ∧ Rp K H v d
  | [], _, _, h => by simp at h
  | p :: fs, [], h, _ => by cases h
  | p :: fs, d' :: ds, .cons h t, e => by
    rw [List.map_cons, List.zip_cons_cons, List.lookup_cons] at e
    rw [show p :: fs = (p.1, p.2) :: fs from rfl, List.lookup_cons]
    cases q : f == p.1 with
    | true =>
      rw [q] at e
      cases e
      exact ⟨p.2, rfl, h⟩
    | false =>
      rw [q] at e
      exact zip_lookup t e
theorem lookup_none {f : Str} : ∀ {fs : List (Str × V)}, f ∉ fs.map (·.1) → fs.lookup f = none
  | [], _ => rfl
  | p :: fs, h => by
    rw [List.map_cons, List.mem_cons, not_or] at h
    rw [show p :: fs = (p.1, p.2) :: fs from rfl, List.lookup_cons]
    have : (f == p.1) = false := by simpa using h.1
    rw [this]
    exact lookup_none h.2
section
variable {X : Cx} {env : En} {e o : Expr} {C : Addr} {ns : List Str} {ds : List PyData} {d : PyData} {f : Str} {pos apos p : Pos}
theorem ev_fld (he : Ev X env e (ob C ns ds)) (hC : Cls X.K C) (hn : NoAttr X.K C f) (hl : (ns.zip ds).lookup f = some d) (hb : attributeBase e f X.env (eval e X.env) = eval e X.env := by rfl) : Ev X env (.Attribute e f pos) d :=
  wkE (pe_fld he hb) fun σ H Q ⟨hE, q⟩ => ⟨hE, fun v H1 s1 d1 => by
    obtain ⟨a, dx, fs, rfl, h1, h2, h3⟩ := ob_inv d1
    subst h2
    obtain ⟨u, h4, h5⟩ := zip_lookup h3 hl
    exact ⟨a, C, dx, fs, u, rfl, h1, hC, hn, h4, q u H1 s1 h5⟩⟩
/-- a method that the class has -/
structure Md (P : Program) (w : World) (K : PySem.W.Frag) (mg : Str → Option Value) (base : Heap) (k : Nat) (C : Addr) (m : Str) (sp : Sp) : Prop where
  ex : ∃ f fd ps, FnOk P w K mg base CX0 k f fd ps sp ∧ Meth K C m f ∧ Binds K fd ps []
theorem ev_meth {es : List Expr} {a1 : Expr} {m : Str} {k j : Nat} {R : List PyData → PyData → Prop} {args : List PyData} {r : PyData} {pl : Sem Bool} (c : Md X.prog X.w X.K X.mg X.base k C m (spD X.K R)) (hC : Cls X.K C) (hr : Room j X.A) (hk : k ≤ j) (he : Ev X env o (ob C ns ds)) (ha : EvA X env (a1 :: es) args) (hnm : m ∉ ns) (hR : R (ob C ns ds :: args) r)
    (hst : starEach (a1 :: es) X.env = (false, eval a1 X.env) :: starEach es X.env := by rfl) (hpl : (backTo pos (starEach es X.env)).any (·.1) = false := by rfl)
    (ht : eval (.Call (.Attribute o m apos) (a1 :: es) [] pos) X.env = (do
      let ov ← eval o X.env
      standAt apos.atName
      let (f, first) ← holding [ov] (getMethod ov m pl)
      callWith pos f first (backTo pos (starEach (a1 :: es) X.env)) (backToKw pos (keywordEach [] X.env))) := by rfl) :
    Ev X env (.Call (.Attribute o m apos) (a1 :: es) [] pos) r := by
  obtain ⟨f, fd, ps, F, hm, hb⟩ := c.ex
  refine wkE (pe_meth he hC hm F (hr.mono hk) hb .nil pass0 ha hst hpl ht) fun σ H Q ⟨hE, q⟩ => ⟨hE, fun v H1 s1 d1 => ?_⟩
  obtain ⟨a, dx, fs, rfl, h1, h2, h3⟩ := ob_inv d1
  refine ⟨a, dx, fs, rfl, h1, lookup_none (by rw [h2]; exact hnm), hE.mono s1, fun vs H2 s2 d2 => ?_⟩
  show spD X.K R (V.ref a :: (vs ++ [])) H2 Q E0
  rw [List.append_nil]
  exact ⟨_, r, .cons (d1.mono s2) d2, hR, fun v H3 s3 d3 => q v H3 (s1.trans (s2.trans s3)) d3⟩
/-- isinstance(x, T), T an own class -/
theorem ev_isiO {T : Str} {C2 : Addr} {b : Bool} {pT : Pos} (he : Ev X env e (ob C ns ds)) (hT : Ty1 X.K C) (hg : Gl X "isinstance") (hm : X.mg "isinstance" = none) (hgT : Gl X T) (hmT : X.mg T = some (.ref C2)) (hk : PySem.W.kitOne X.K (.ref C) (.ref C2) = some b)
    (hdb : (T == ("__debug__" : Str)) = false := by decide)
    (hs : starEach [e, .Name T pT] X.env = (false, eval e X.env) :: starEach [.Name T pT] X.env := by rfl) (hs2 : starEach [.Name T pT] X.env = (false, eval (.Name T pT) X.env) :: starEach [] X.env := by rfl) (hpl : (backTo pos (starEach [.Name T pT] X.env)).any (·.1) = false := by rfl) :
    Ev X env (.Call (.Name "isinstance" p) [e, .Name T pT] [] pos) (.bool b) :=
  wkE (pe_callB call_isi hg hm (by decide +kernel) (pa_cons he (pa_cons (pe_glob (v := .ref C2) hgT hmT rfl hdb) pa_nil hs2) hs) (by decide) (by decide) hs hpl) fun σ H Q ⟨hE, q⟩ => ⟨hE, fun v H1 s1 d1 => by
    obtain ⟨a, dx, fs, rfl, h1, h2, h3⟩ := ob_inv d1
    exact ⟨.ref a, .ref C2, .ref C, .ref C2, b, rfl, .own C2, .base (.ins h1 hT.cl hT.ha hT.hn hT.tk hT.mr), hk, q _ H1 s1 (.bl b)⟩⟩
theorem cmp_isB {a b : Bool} : Cmp X .Is (.bool a) (.bool b) (decide (a = b)) := ⟨_, op_isBl, fun H v u Q d1 d2 q => by
  cases d1
  cases d2
  exact ⟨a, b, rfl, rfl, q _ H (Same.refl H) (.bl _)⟩⟩
theorem cmp_isNotB {a b : Bool} : Cmp X .IsNot (.bool a) (.bool b) (!decide (a = b)) := ⟨_, op_notBl, fun H v u Q d1 d2 q => by
  cases d1
  cases d2
  exact ⟨a, b, rfl, rfl, q _ H (Same.refl H) (.bl _)⟩⟩
end
/-! a new instance -/
def tO (K : PySem.W.Frag) (env : En) (C : Addr) (ds : List PyData) : TE := fun σ H Q => EnvE K H σ env ∧ ∀ a dx l vs H', Same H H' → H a = none → H l = none → H' a = some (.ins C dx [("places", .ref l)]) → H' l = some (.lst vs) → RpAll K H' vs ds → Q (.ref a) H'
abbrev EvO (X : Cx) (env : En) (e : Expr) (C : Addr) (ds : List PyData) : Prop := PE X e (tO X.K env C ds)
def obP (C : Addr) (ds : List PyData) : PyData := ob C ["places"] [.list ds]
theorem rp_obP {K : PySem.W.Frag} {H : Hp} {a C dx l : Addr} {vs : List V} {ds : List PyData} (h1 : H a = some (.ins C dx [("places", .ref l)])) (h2 : H l = some (.lst vs)) (h3 : RpAll K H vs ds) : Rp K H (.ref a) (obP C ds) := .obj h1 rfl (.cons (.lst (.of h2) h3) .nil)
theorem EvO.ev {X : Cx} {env : En} {e : Expr} {C : Addr} {ds : List PyData} (h : EvO X env e C ds) : Ev X env e (obP C ds) := wkE h fun σ H Q ⟨he, q⟩ => ⟨he, fun a dx l vs H' s _ _ h1 h2 h3 => q _ H' s (rp_obP h1 h2 h3)⟩
/-- what is fresh -/
def FrO (K : PySem.W.Frag) (H H' : Hp) (v : V) (r : PyData) : Prop := Rp K H' v r ∧ ∀ C ds, r = obP C ds → ∃ a dx l vs, v = .ref a ∧ H a = none ∧ H l = none ∧ H' a = some (.ins C dx [("places", .ref l)]) ∧ H' l = some (.lst vs) ∧ RpAll K H' vs ds
def spF (K : PySem.W.Frag) (R : List PyData → PyData → Prop) : Sp := fun vs H Q _ => ∃ ds r, RpAll K H vs ds ∧ R ds r ∧ ∀ v H', Same H H' → FrO K H H' v r → Q v H'
def RtF (K : PySem.W.Frag) (H0 : Hp) (D : Ends) (r : PyData) : Prop := ∀ v H', Same H0 H' → FrO K H0 H' v r → D.rt v H'
theorem RtF.mono {K : PySem.W.Frag} {r : PyData} {H0 H1 : Hp} {D : Ends} (h : RtF K H0 D r) (e : Same H0 H1) : RtF K H1 D r := fun v H' s ⟨f1, f2⟩ => h v H' (e.trans s) ⟨f1, fun C ds z => let ⟨a, dx, l, vs, h1, h2, h3, r⟩ := f2 C ds z; ⟨a, dx, l, vs, h1, e.free h2, e.free h3, r⟩⟩
section
variable {X : Cx} {H0 : Hp} {env : En} {D : Ends} {rest : List Stmt} {e e2 : Expr} {es : List Expr} {pos px pos' p : Pos} {x : Str} {i j : Nat} {C : Addr} {ds : List PyData} {d : PyData}
theorem run_retO (he : EvO X env e C ds) (h : RtF X.K H0 D (obP C ds)) : Run X H0 env (.Return (some e) pos :: rest) D := run_cons (ps_ret he) fun B σ H S => ⟨S.e, fun a dx l vs H1 s1 ha hl h1 h2 h3 => by
  have e01 := S.e0.trans S.e1
  refine h _ H1 (e01.trans s1) ⟨rp_obP h1 h2 h3, fun C' ds' z => ?_⟩
  have z1 := z
  unfold obP ob obK at z1
  injection z1 with z2
  injection z2 with z3 z4
  injection z3 with z5 _
  injection z5 with z6
  injection z6 with z6
  injection z4 with z7 _
  injection z7 with _ z8
  injection z8 with z9
  injection z9 with z10 _
  injection z10 with z11
  have z12 : C = C' := z6
  subst z12 z11
  exact ⟨a, dx, l, vs, rfl, e01.free ha, e01.free hl, h1, h2, h3⟩⟩
/-- .. of another shape -/
theorem run_retF (he : Ev X env e d) (hd : ∀ C ds, d ≠ obP C ds) (h : RtF X.K H0 D d) : Run X H0 env (.Return (some e) pos :: rest) D := run_cons (ps_ret he) fun B σ H S => ⟨S.e, fun v H1 s1 d1 => h v H1 (S.e0.trans (S.e1.trans s1)) ⟨d1, fun C ds z => absurd z (hd C ds)⟩⟩
theorem ev_callF {k j : Nat} {R : List PyData → PyData → Prop} {args : List PyData} {r : PyData} (c : Cd X.prog X.w X.K X.mg X.base k x (spF X.K R)) (hr : Room j X.A) (hk : k ≤ j) (hg : Gl X x) (ha : EvA X env (e :: es) args) (hR : R args r)
    (hdb : (x == ("__debug__" : Str)) = false := by decide) (he : starEach (e :: es) X.env = (false, eval e X.env) :: starEach es X.env := by rfl) (hpl : (backTo pos (starEach es X.env)).any (·.1) = false := by rfl) :
    Ev X env (.Call (.Name x p) (e :: es) [] pos) r := by
  obtain ⟨f, fd, ps, F, hm, hk', hb⟩ := c.ex
  refine wkE (pe_call F (hr.mono hk) hg hm hk' hb .nil pass0 ha hdb he hpl) fun σ H Q ⟨hE, q⟩ => ⟨hE, fun vs H1 s1 d1 => ?_⟩
  show spF X.K R (vs ++ []) H1 Q E0
  rw [List.append_nil]
  exact ⟨args, r, d1, hR, fun v H2 s2 d2 => q v H2 (s1.trans s2) d2.1⟩
theorem evo_callF {k j : Nat} {R : List PyData → PyData → Prop} {args : List PyData} (c : Cd X.prog X.w X.K X.mg X.base k x (spF X.K R)) (hr : Room j X.A) (hk : k ≤ j) (hg : Gl X x) (ha : EvA X env (e :: es) args) (hR : R args (obP C ds))
    (hdb : (x == ("__debug__" : Str)) = false := by decide) (he : starEach (e :: es) X.env = (false, eval e X.env) :: starEach es X.env := by rfl) (hpl : (backTo pos (starEach es X.env)).any (·.1) = false := by rfl) :
    EvO X env (.Call (.Name x p) (e :: es) [] pos) C ds := by
  obtain ⟨f, fd, ps, F, hm, hk', hb⟩ := c.ex
  refine wkE (pe_call F (hr.mono hk) hg hm hk' hb .nil pass0 ha hdb he hpl) fun σ H Q ⟨hE, q⟩ => ⟨hE, fun vs H1 s1 d1 => ?_⟩
  show spF X.K R (vs ++ []) H1 Q E0
  rw [List.append_nil]
  exact ⟨args, _, d1, hR, fun v H2 s2 d2 => by
    obtain ⟨a, dx, l, us, rfl, ha, hl, h1, h2, h3⟩ := d2.2 C ds rfl
    exact q a dx l us H2 (s1.trans s2) (s1.free ha) (s1.free hl) h1 h2 h3⟩
/-- x = a new instance: it is the def's own -/
theorem run_setO (hi : nmIx x X.N 0 = some i) (hN : X.N.Nodup) (hx : Loc X.env.scope x) (he : EvO X env e C ds) (hf : noOwn env = true) (hfz : fzs ds = true) (k : Run X H0 (env.set i (some (.o C ds))) rest D)
    (hs : swapsWith e (some (.Name x pos')) pos.line X.env = pure false := by rfl) (hf' : X.fn x = true ∨ X.env.scope.names.lookup x = some .local := by first | exact .inl rfl | exact .inr rfl) :
    Run X H0 env (.Assign [.Name x pos'] e pos :: rest) D := run_cons (ps_set hN (nm0 hi) hx he hs hf') fun B σ H S => ⟨S.e, fun a dx l vs H1 s1 ha hl h1 h2 h3 => by
  have hal : a ≠ l := fun z => by
    subst z
    rw [h1] at h2
    cases h2
  have bH : Same H (fun b => if b = l then none else H1 b) := fun b o h => by
    have : b ≠ l := fun z => by rw [z, hl] at h; cases h
    show (if b = l then none else H1 b) = some o
    rw [if_neg this]
    exact s1 _ _ h
  have b1 : Same (fun b => if b = l then none else H1 b) H1 := fun b o h => by
    have h : (if b = l then none else H1 b) = some o := h
    split at h
    · cases h
    · exact h
  refine k (fun b => if b = l then none else H1 b) _ _ (StOk.put (s := .o C ds) ⟨S.e0.trans (S.e1.trans bH), b1, S.len, fun i s hi => ?_, fun i j s t v hi hj so => by rw [noOwn_at hf hi] at so; cases so⟩ ⟨a, dx, l, vs, rfl, ?_, ?_, h2, h3, hfz⟩ fun _ j t ne hj ot => by rw [noOwn_at hf hj] at ot; cases ot)
  · obtain ⟨v, g1, g2⟩ := S.sl i s hi
    refine ⟨v, g1, ?_⟩
    cases s with
    | d x =>
      rcases g2 with h | h
      · exact .inl (h.mono (S.e1.trans bH))
      · exact .inl (h.2.mono bH)
    | l ds => exact absurd (noOwn_at hf hi) (by simp [SV.own])
    | m ds => exact absurd (noOwn_at hf hi) (by simp [SV.own])
    | o C ds => exact absurd (noOwn_at hf hi) (by simp [SV.own])
    | k l kvs => obtain ⟨kv, h3, ⟨o, h4⟩, h5, h6⟩ := g2; exact ⟨kv, h3, ⟨o, bH _ _ (S.e1 _ _ h4)⟩, h5.mono s1, h6⟩
    | g R => exact R.mono g2 (S.e1.trans bH)
  · show (if a = l then none else H1 a) = _
    rw [if_neg hal]
    exact h1
  · show (if l = l then none else H1 l) = none
    rw [if_pos rfl]⟩
/-- x.places.append(e) -/
theorem run_oapp {apos cpos p1 : Pos} (hN : nmIx x X.N 0 = some i) (hv : Vis X.env.scope x) (hi : env[i]? = some (some (.o C ds))) (hno : noOwn (env.set i none) = true) (hC : Cls X.K C) (hn : NoAttr X.K C "places") (he : Ev X env e d) (hf : fz d = true) (hz : ds.length ≤ 1000000) (k : Run X H0 (env.set i (some (.o C (ds ++ [d])))) rest D)
    (hd : (x == ("__debug__" : Str)) = false := by decide) (hcd : (x == ("__classdict__" : Str)) = false := by decide)
    (hs : swapsWith (.Call (.Attribute (.Attribute (.Name x p) "places" p1) "append" apos) [e] [] cpos) none pos.line X.env = pure false := by rfl)
    (hse : starEach [e] X.env = (false, eval e X.env) :: starEach [] X.env := by rfl)
    (hb1 : attributeBase (.Name x p) "places" X.env (eval (.Name x p) X.env) = eval (.Name x p) X.env := by rfl)
    (hbase : attributeBase (.Attribute (.Name x p) "places" p1) "append" X.env (eval (.Attribute (.Name x p) "places" p1) X.env) = eval (.Attribute (.Name x p) "places" p1) X.env := by rfl)
    (hfew : ((backTo cpos (starEach [e] X.env)).all (fun x => !x.1) && (backToKw cpos (keywordEach [] X.env)).all (fun x => x.1.isSome)
      && decide ([e].length + ([] : List Keyword).length + (if ([] : List Keyword).isEmpty then 0 else 1) < 30)) = true := by rfl)
    (hline : (apos.endLine == cpos.line) = true := by rfl) (hplain : (backTo cpos (starEach [] X.env)).any (·.1) = false := by rfl) :
    Run X H0 env (.Expr (.Call (.Attribute (.Attribute (.Name x p) "places" p1) "append" apos) [e] [] cpos) pos :: rest) D :=
  run_cons (ps_expr (pe_bm PySem.F.plainAttrs_list PySem.F.slot_list_append PySem.F.type_list_append mt_append (pe_fld (pe_var (nm0 hN) hv hd hcd) hb1) (pa_cons he pa_nil hse) hbase hfew hline hse hplain) hs) fun B σ H S => by
    obtain ⟨v, hv, a, dx, l, vs, rfl, hBa, hB, hl, hd, hfs⟩ := S.sl i _ hi
    have hlt : i < env.length := (List.getElem?_eq_some_iff.mp hi).1
    refine ⟨_, hv, a, C, dx, _, .ref l, rfl, S.e1 _ _ hBa, hC, hn, rfl, .inl ⟨rfl, _, .of hl⟩, S.e, fun w H1 s1 d1 => ⟨l, vs, w, rfl, rfl, s1 _ _ hl, ?_, k B σ _ ?_⟩⟩
    · rw [RpAll.len hd]
      exact Nat.lt_of_le_of_lt hz (by decide)
    · have S1 := S.grow s1
      have hl1 := s1 _ _ hl
      have kp : Keep H1 (upd H1 l (.lst (vs ++ [w]))) := keep_upd hl1 (fun xs z => by cases z)
      have oth : ∀ j s, j ≠ i → env[j]? = some (some s) → s.own = false := fun j s ne hj => noOwn_at hno (i := j) (by rw [List.getElem?_set_ne (fun z => ne z.symm)]; exact hj)
      refine ⟨S1.e0, fun b x h => ?_, by rw [List.length_set]; exact S1.len, fun j u hj => ?_, fun j m u w' v' hj hm oj om vj vm => ?_⟩
      · rw [upd_ne (ne_of_none h hB)]
        exact S1.e1 b x h
      · rcases set_get hj with ⟨rfl, e⟩ | ⟨ne, e⟩
        · cases e
          exact ⟨_, hv, a, dx, l, _, rfl, hBa, hB, upd_same, .append (dkeeps kp _ _ hfs (hd.mono s1)) (.cons (dkeep kp _ _ hf d1) .nil), by rw [fzs_append]; simp [hfs, fzs, hf]⟩
        · obtain ⟨v2, g1, g2⟩ := S1.sl j u e
          have ho := oth j u ne e
          refine ⟨v2, g1, g2.chg hB hl1 (fun xs z => by cases z) (fun z => by rw [ho] at z; cases z) fun C' ds' z => ?_⟩
          rw [z] at ho
          cases ho
      · rcases set_get hj with ⟨rfl, e⟩ | ⟨ne, e⟩
        · rcases set_get hm with ⟨rfl, e'⟩ | ⟨ne', e'⟩
          · rfl
          · rw [oth m w' ne' e'] at om
            cases om
        · rw [oth j u ne e] at oj
          cases oj
end
theorem cdF {P : Program} {w : World} {K : PySem.W.Frag} {mg : Str → Option Value} {base : Heap} {x : Str} {st : Stmt} {N ps : List Str} {k : Nat} {R : List PyData → PyData → Prop} (F : Df K mg x st ps) (S : FnScope N ps (defScope st)) (hl : ∀ ds r, R ds r → ds.length = ps.length)
    (body : ∀ (f : Addr) (cdv : Value) (A : Around) (outer : List Env) (s : Shared) (H : Hp) (E : XK), Room k (CxD P w K mg base N x st f cdv A outer s H E).A → (CxD P w K mg base N x st f cdv A outer s H E).N.Nodup → ∀ (ds : List PyData) (r : PyData) (D : Ends), R ds r → RtF K H D r →
      Run (CxD P w K mg base N x st f cdv A outer s H E) H (env0 N.length ds) (defBody st) D) (hnn : ∀ ds, ¬ R ds .none) : Cd P w K mg base (k + 1) x (spF K R) := by
  obtain ⟨f, fd, hF, hm, hb⟩ := F.ex
  refine ⟨f, fd, ps, ?_, hm, hF.kp, hb⟩
  refine hF.ok S (fun vs H Q E h => ?_) (fun cdv A outer s H vs Q E hr h => ?_)
  · obtain ⟨ds, r, hd, hR, _⟩ := h
    rw [RpAll.len hd, hl ds r hR]
  · obtain ⟨ds, r, hd, hR, q⟩ := h
    exact body f cdv A outer s H E hr S.nd ds r { nx := fun _ H' => Q .non H', rt := Q } hR q H _ H (st0 hd)
/-- a def whose promise is told by hand -/
structure DfM (K : PySem.W.Frag) (C : Addr) (m qual : Str) (st : Stmt) (ps : List Str) : Prop where
  ex : ∃ f fd, Fun K m qual st f fd ∧ Meth K C m f ∧ Binds K fd ps []
/-- .. of a method -/
theorem mdD {P : Program} {w : World} {K : PySem.W.Frag} {mg : Str → Option Value} {base : Heap} {C : Addr} {m qual : Str} {st : Stmt} {N ps : List Str} {k : Nat} {R : List PyData → PyData → Prop} (F : DfM K C m qual st ps) (S : FnScope N ps (defScope st)) (hl : ∀ ds r, R ds r → ds.length = ps.length)
    (body : ∀ (f : Addr) (cdv : Value) (A : Around) (outer : List Env) (s : Shared) (H : Hp) (E : XK), Room k (CxD P w K mg base N qual st f cdv A outer s H E).A → (CxD P w K mg base N qual st f cdv A outer s H E).N.Nodup → ∀ (ds : List PyData) (r : PyData) (D : Ends), R ds r → RtD K H D r → (r = .none → ∀ σ H', Same H H' → D.nx σ H') →
      Run (CxD P w K mg base N qual st f cdv A outer s H E) H (env0 N.length ds) (defBody st) D) : Md P w K mg base (k + 1) C m (spD K R) := by
  obtain ⟨f, fd, hF, hm, hb⟩ := F.ex
  exact ⟨f, fd, ps, fnD hF S hl (fun cdv A outer s H E hr => body f cdv A outer s H E hr S.nd), hm, hb⟩

/-! a for with more that holds at each turn; a new list as data beside own things -/
def NXI (X : Cx) (Hl : Hp) (e : En) (P : Prop) : L2.St → Hp → Prop := fun σ' H' => P ∧ NX X Hl e σ' H'
section
variable {X : Cx} {H0 : Hp} {env : En} {D : Ends} {rest body : List Stmt} {pos : Pos}
theorem run_turnI {e : En} {P : Prop} (hD : D.nx = NXI X H0 e P) (hP : P) (g : Le e env) : Run X H0 env [] D := run_end fun B σ H S => by rw [hD]; exact ⟨hP, B, S.le g⟩
theorem run_forI {tg iter : Expr} {n : Nat} {item : Nat → PyData} {g : TG} {f : PyData → En → En} {ok : PyData → Prop} (E : Nat → En) (I : Nat → Prop) (hp : PassesOwn (model X.prog X.w) X.A X.env X.xe) (hc : X.calm = true) (hI : ItS X H0 env tg iter n item) (hg : PG X tg g) (hs : GS X.K g f ok)
    (h0 : Le (E 0) env) (i0 : I 0) (hit : ∀ i, i < n → fz (item i) = true ∧ ok (item i))
    (turn : ∀ (i : Nat) (Hl : Hp) (D' : Ends), i < n → I i → Same H0 Hl → D'.nx = NXI X Hl (E (i + 1)) (I (i + 1)) → D'.rt = D.rt → Run X Hl (f (item i) (E i)) body D')
    (done : I n → Run X H0 (E n) rest D) (hfo : ∀ x, foldedSetIterable iter X.env x = pure x := by intro _; rfl) : Run X H0 env (.For tg iter body [] pos :: rest) D := by
  obtain ⟨wi, hi, hw⟩ := hI
  refine run_cons (ps_for hp hc hi hg (tR_ok (X := X) (body := body)) hfo) fun B σ H S => ?_
  refine hw B σ H _ S fun J H1 Bi G Yv s1 S1 W hG hY => ?_
  refine for_it W (fun i σ' H' => I i ∧ ∃ B', Same Bi B' ∧ StOk X.K H0 B' H' σ' (E i)) ⟨i0, Bi, Same.refl _, S1.le h0⟩ (fun i σ' H' _ ⟨_, B', b, S'⟩ => hG H' (b.trans S'.e1)) ?_ ?_
  · rintro i x σ' H' H'' hlt ⟨hIi, B', b, S'⟩ hy
    obtain ⟨s2, r⟩ := hY i H' x H'' hlt (b.trans S'.e1) hy
    have S2 : StOk X.K B' B' H'' σ' (E i) := ⟨Same.refl _, (S'.grow s2).e1, (S'.grow s2).len, (S'.grow s2).sl, (S'.grow s2).sep⟩
    refine hs B' B' σ' H'' x (item i) (E i) _ S2 r (hit i hlt).1 (hit i hlt).2 fun σ3 S3 => ?_
    have T := turn i B' { D with nx := NXI X B' (E (i + 1)) (I (i + 1)), ct := NXI X B' (E (i + 1)) (I (i + 1)), bk := fun _ _ => False } hlt hIi S'.e0 rfl rfl B' σ3 H'' S3
    have g : ∀ σ5 H5, NXI X B' (E (i + 1)) (I (i + 1)) σ5 H5 → I (i + 1) ∧ ∃ B', Same Bi B' ∧ StOk X.K H0 B' H5 σ5 (E (i + 1)) := fun σ5 H5 ⟨h, B5, S5⟩ => ⟨h, B5, b.trans S5.e0, ⟨S'.e0.trans S5.e0, S5.e1, S5.len, S5.sl, S5.sep⟩⟩
    exact tR_mono T g (fun _ _ z => z) (fun _ _ z => z.elim) g
  · rintro σ' H' ⟨hIn, B', b, S'⟩
    exact done hIn B' σ' H' S'
theorem run_setLD {i : Nat} {x : Str} {e : Expr} {ds : List PyData} {pos' : Pos} (hi : nmIx x X.N 0 = some i) (hN : X.N.Nodup) (hx : Loc X.env.scope x) (he : EvL X env e ds) (hf : fzs ds = true) (k : Run X H0 (env.set i (some (.d (.list ds)))) rest D)
    (hs : swapsWith e (some (.Name x pos')) pos.line X.env = pure false := by rfl) (hf' : X.fn x = true ∨ X.env.scope.names.lookup x = some .local := by first | exact .inl rfl | exact .inr rfl) :
    Run X H0 env (.Assign [.Name x pos'] e pos :: rest) D := run_cons (ps_set hN (nm0 hi) hx he hs hf') fun B σ H S => ⟨S.e, fun l vs H1 s1 hl h1 d1 => by
  have hb : hide B H H1 l = some (.lst vs) := by
    rw [hide_at (by rw [hl]; exact id)]
    exact h1
  exact k _ _ _ ((S.hide s1).put (s := .d (.list ds)) (.inl (.lst (.of hb) (dkeeps (hide_keep s1) _ _ hf d1))) fun z => by cases z)⟩
/-- for a, b in .., with more that holds -/
theorem rs_forI2 {x y : Str} {px py pt : Pos} {kt : Nat} {iter : Expr} {n : Nat} {u v : Nat → PyData} {i j : Nat} (E : Nat → En) (I : Nat → Prop) (hi : nmIx x X.N 0 = some i) (hj : nmIx y X.N 0 = some j) (hN : X.N.Nodup) (hx : Loc X.env.scope x) (hy : Loc X.env.scope y) (hp : PassesOwn (model X.prog X.w) X.A X.env X.xe)
    (hI : ItS X H0 env (.Tuple [.Name x px, .Name y py] kt pt) iter n (fun i => .tuple [u i, v i]))
    (h0 : Le (E 0) env) (i0 : I 0) (hit : ∀ i, i < n → fz (u i) = true ∧ fz (v i) = true)
    (turn : ∀ (m : Nat) (Hl : Hp) (D' : Ends), m < n → I m → Same H0 Hl → D'.nx = NXI X Hl (E (m + 1)) (I (m + 1)) → D'.rt = D.rt → Run X Hl (((E m).set i (some (.d (u m)))).set j (some (.d (v m)))) body D')
    (done : I n → Run X H0 (E n) rest D) (hc : X.calm = true := by rfl) (hfo : ∀ x, foldedSetIterable iter X.env x = pure x := by intro _; rfl)
    (hfx : X.fn x = true ∨ X.env.scope.names.lookup x = some .local := by first | exact .inl rfl | exact .inr rfl) (hfy : X.fn y = true ∨ X.env.scope.names.lookup y = some .local := by first | exact .inl rfl | exact .inr rfl)
    (h2 : (assignEach [.Name x px, .Name y py] X.env).map (·.2) = assign (.Name x px) X.env :: (assignEach [.Name y py] X.env).map (·.2) := by rfl)
    (h3 : (assignEach [.Name y py] X.env).map (·.2) = assign (.Name y py) X.env :: (assignEach [] X.env).map (·.2) := by rfl)
    (hn : (assignEach [.Name x px, .Name y py] X.env).length = 2 := by rfl) (hst : (assignEach [.Name x px, .Name y py] X.env).findIdx? (·.1) = none := by rfl) : Run X H0 env (.For (.Tuple [.Name x px, .Name y py] kt pt) iter body [] pos :: rest) D :=
  run_forI E I hp hc hI (pg_tup hc (pgs_cons (pg_name hN (nm0 hi) hx hfx) (pgs_cons (pg_name hN (nm0 hj) hy hfy) pgs_nil h3) h2) hn hst) (gs_tup2 (gs_name i) (gs_name j)) h0 i0 (fun m hm => ⟨by have := hit m hm; simp [fz, fzs, this.1, this.2], ⟨_, _, rfl, trivial, trivial⟩⟩) turn done hfo
end
/-! making -/
/-- a class that can be made, its __init__ promising sp -/
structure MkD (P : Program) (w : World) (K : PySem.W.Frag) (mg : Str → Option Value) (base : Heap) (k : Nat) (x : Str) (C : Addr) (sp : Sp) : Prop where
  ex : ∃ f fd ps, FnOk P w K mg base CX0 k f fd ps sp ∧ Mk K C f ∧ Binds K fd ps []
  at_ : mg x = some (.ref C)
def spI1 (K : PySem.W.Frag) (C : Addr) : Sp := fun vs H Q _ => ∃ p dx l0 xs, vs = [.ref p, .ref l0] ∧ H p = some (.ins C dx []) ∧ SqL K H l0 xs ∧ ∀ l, H l = none → Q .non (upd (upd H l (.lst xs)) p (.ins C dx [("places", .ref l)]))
def spI2 (K : PySem.W.Frag) (C : Addr) : Sp := fun vs H Q _ => ∃ p dx i j, vs = [.ref p, .int i, .int j] ∧ H p = some (.ins C dx []) ∧ Q .non (upd (upd H p (.ins C dx [("first", .int i)])) p (.ins C dx [("first", .int i), ("second", .int j)]))
section
variable {X : Cx} {env : En} {e e2 : Expr} {es : List Expr} {pos p : Pos} {x : Str} {C : Addr} {k j : Nat}
theorem evo_mk {ds : List PyData} (M : MkD X.prog X.w X.K X.mg X.base k x C (spI1 X.K C)) (hr : Room j X.A) (hk : k + 1 ≤ j) (hg : Gl X x) (he : Ev X env e (.list ds)) (hf : fzs ds = true) (hdb : (x == ("__debug__" : Str)) = false := by decide)
    (hs : starEach [e] X.env = (false, eval e X.env) :: starEach [] X.env := by rfl) (hpl : (backTo pos (starEach [] X.env)).any (·.1) = false := by rfl) : EvO X env (.Call (.Name x p) [e] [] pos) C ds := by
  obtain ⟨f, fd, ps, F, hM, hb⟩ := M.ex
  refine wkE (pe_make hM F (hr.mono hk) hg M.at_ hb .nil pass0 (ea_cons he ea_nil hs) hdb hs hpl) fun σ H Q ⟨hE, q⟩ => ⟨hE, fun vs H1 s1 d1 a dx ha hdx hne => ?_⟩
  cases d1 with
  | cons d1 d2 =>
    cases d2
    cases d1 with
    | lst hS hA =>
      rename_i l0 xs
      have n1 : Same H1 (upd (upd H1 dx (.own a)) a (.ins C dx [])) := fun b o h => by
        rw [upd_ne (ne_of_none h ha), upd_ne (ne_of_none h hdx)]
        exact h
      refine ⟨a, dx, l0, xs, rfl, upd_same, n1.seq hS, fun l hl => ⟨rfl, ?_⟩⟩
      have hla : l ≠ a := fun z => by subst z; rw [upd_same] at hl; cases hl
      have hl1 : H1 l = none := n1.free hl
      have n2 : Same H1 (upd (upd (upd (upd H1 dx (.own a)) a (.ins C dx [])) l (.lst xs)) a (.ins C dx [("places", .ref l)])) := fun b o h => by
        rw [upd_ne (ne_of_none h ha), upd_ne (ne_of_none h hl1)]
        exact n1 _ _ h
      exact q a dx l xs _ (s1.trans n2) (s1.free ha) (s1.free hl1) upd_same (by rw [upd_ne hla, upd_same]) (hA.mono n2)
theorem ev_mk2 {i m : Int} (M : MkD X.prog X.w X.K X.mg X.base k x C (spI2 X.K C)) (hr : Room j X.A) (hk : k + 1 ≤ j) (hg : Gl X x) (he : Ev X env e (.int i)) (he2 : Ev X env e2 (.int m)) (hdb : (x == ("__debug__" : Str)) = false := by decide)
    (hs : starEach [e, e2] X.env = (false, eval e X.env) :: starEach [e2] X.env := by rfl) (hs2 : starEach [e2] X.env = (false, eval e2 X.env) :: starEach [] X.env := by rfl) (hpl : (backTo pos (starEach [e2] X.env)).any (·.1) = false := by rfl) : Ev X env (.Call (.Name x p) [e, e2] [] pos) (ob C ["first", "second"] [.int i, .int m]) := by
  obtain ⟨f, fd, ps, F, hM, hb⟩ := M.ex
  refine wkE (pe_make hM F (hr.mono hk) hg M.at_ hb .nil pass0 (ea_cons he (ea_cons he2 ea_nil hs2) hs) hdb hs hpl) fun σ H Q ⟨hE, q⟩ => ⟨hE, fun vs H1 s1 d1 a dx ha hdx hne => ?_⟩
  cases d1 with
  | cons d1 d2 =>
    cases d2 with
    | cons d2 d3 =>
      cases d3
      cases d1
      cases d2
      have n1 : Same H1 (upd (upd H1 dx (.own a)) a (.ins C dx [])) := fun b o h => by
        rw [upd_ne (ne_of_none h ha), upd_ne (ne_of_none h hdx)]
        exact h
      refine ⟨a, dx, i, m, rfl, upd_same, rfl, ?_⟩
      have n2 : Same H1 (upd (upd (upd (upd H1 dx (.own a)) a (.ins C dx [])) a (.ins C dx [("first", .int i)])) a (.ins C dx [("first", .int i), ("second", .int m)])) := fun b o h => by
        rw [upd_ne (ne_of_none h ha), upd_ne (ne_of_none h ha)]
        exact n1 _ _ h
      exact q _ _ (s1.trans n2) (.obj upd_same rfl (.cons (.int i) (.cons (.int m) .nil)))
end
section
variable {P : Program} {w : World} {K : PySem.W.Frag} {mg : Str → Option Value} {base : Heap}
theorem call_list_is {X : Cx} : CallR X (.type "list") (fun xs H Q => ∃ p ys, xs = [.ref p] ∧ (SqL X.K H p ys ∨ SqT X.K H p ys) ∧ ∀ l, H l = none → Q (.ref l) (upd H l (.lst ys))) := call_list_of
end
end Sw

/-! loops over an own dict's keys -/
namespace Sw
open PySem PySem.Spec PyProof.Rows L2
section
variable {K : PySem.W.Frag} {H0 B H H1 : Hp} {σ : L2.St} {env : En}
mutual
theorem rp_drop {l : Addr} {o : Obj} {kv : List (List Key × V)} (hB : B l = some (.frz o (.dT kv))) : ∀ {v : V} {d : PyData}, Rp K B v d → Rp K (fun b => if b = l then none else B b) v d
  | _, _, .non => .non
  | _, _, .bl b => .bl b
  | _, _, .int i => .int i
  | _, _, .str x => .str x
  | _, _, .lst (a := a) hs ha => by
    refine .lst ?_ (rps_drop hB ha)
    have key : ∀ u, B a = some u → (∀ o' kv', u ≠ .frz o' (.dT kv')) → (if a = l then none else B a) = some u := fun u h hu => by
      have : a ≠ l := fun z => by
        subst z
        rw [hB] at h
        cases h
        exact hu _ _ rfl
      rw [if_neg this]
      exact h
    rcases hs with (h | ⟨o', h⟩) | ⟨o', its, n, h, hc, r⟩
    · exact .inl (.inl (key _ h (fun o' kv' z => by cases z)))
    · exact .inl (.inr ⟨o', key _ h (fun o'' kv' z => by cases z)⟩)
    · exact .inr ⟨o', its, n, h, hc, r⟩
  | _, _, .tup (a := a) hs ha => by
    refine .tup ?_ (rps_drop hB ha)
    have : a ≠ l := fun z => by
      subst z
      rw [hB] at hs
      cases hs
    show (if a = l then none else B a) = _
    rw [if_neg this]
    exact hs
  | _, _, .obj (a := a) (dx := dx) hs hk ha => by
    refine .obj (dx := dx) ?_ hk (rps_drop hB ha)
    have : a ≠ l := fun z => by
      subst z
      rw [hB] at hs
      cases hs
    show (if a = l then none else B a) = _
    rw [if_neg this]
    exact hs
  | _, _, .emp (a := a) hs => by
    refine .emp ?_
    have : a ≠ l := fun z => by
      subst z
      rw [hB] at hs
      cases hs
    show (if a = l then none else B a) = _
    rw [if_neg this]
    exact hs
theorem rps_drop {l : Addr} {o : Obj} {kv : List (List Key × V)} (hB : B l = some (.frz o (.dT kv))) : ∀ {v : List V} {d : List PyData}, RpAll K B v d → RpAll K (fun b => if b = l then none else B b) v d
  | _, _, .nil => .nil
  | _, _, .cons h t => .cons (rp_drop hB h) (rps_drop hB t)
end
/-- no slot of the kinds that the unlocking can't follow -/
def plainE (env : En) : Bool := env.all fun o => match o with
  | some (.g _) => false
  | some (.k _ _) => false
  | _ => true
theorem plainE_g (h : plainE env = true) {i : Nat} {R : Fix} (hi : env[i]? = some (some (.g R))) : False := by
  have := List.all_eq_true.mp h (some (.g R)) (List.mem_of_getElem? hi)
  cases this
theorem plainE_k (h : plainE env = true) {i : Nat} {l : Addr} {kvs : List (List Key × PyData)} (hi : env[i]? = some (some (.k l kvs))) : False := by
  have := List.all_eq_true.mp h (some (.k l kvs)) (List.mem_of_getElem? hi)
  cases this
theorem StOk.lock (S : StOk K H0 B H σ env) {i : Nat} {kvs : List (List Key × PyData)} {l : Addr} {kv : List (List Key × V)} (hi : env[i]? = some (some (.m kvs))) (hs : σ[i]? = some (some (.ref l))) (hB : B l = none) (hl : H l = some (.dT kv)) (hkv : KvD K H kv kvs) (hf : vfz kvs = true) (od : Obj) :
    StOk K H0 (upd B l (.frz od (.dT kv))) (upd H l (.frz od (.dT kv))) σ (env.set i (some (.k l kvs))) := by
  have hlt : i < env.length := (List.getElem?_eq_some_iff.mp hi).1
  have bB : Same B (upd B l (.frz od (.dT kv))) := same_new hB
  have kp : Keep H (upd H l (.frz od (.dT kv))) := keep_upd hl (fun xs z => by cases z)
  refine ⟨S.e0.trans bB, fun b o h => ?_, by rw [List.length_set]; exact S.len, fun j t hj => ?_, fun j k t u w hj hk oj ok wj wk => ?_⟩
  · by_cases e : b = l
    · subst e
      rw [upd_same] at h ⊢
      exact h
    · rw [upd_ne e] at h ⊢
      exact S.e1 _ _ h
  · rcases set_get hj with ⟨rfl, e⟩ | ⟨ne, e⟩
    · cases e
      exact ⟨_, hs, kv, rfl, ⟨od, upd_same⟩, hkv.keep kp hf, hf⟩
    · obtain ⟨w, h1, h2⟩ := S.sl j t e
      refine ⟨w, h1, ?_⟩
      have own : t.own = true → w ≠ .ref l := fun ot z => by
        subst z
        exact ne (S.sep j i t _ _ e hi ot rfl h1 hs)
      cases t with
      | d x =>
        rcases h2 with h | h
        · exact .inl (h.mono bB)
        · exact .inr ⟨h.1, dkeep kp _ _ h.1 h.2⟩
      | l ds =>
        obtain ⟨p, vs, rfl, h0, h3, h4, h5⟩ := h2
        have np : p ≠ l := fun z => own rfl (by rw [z])
        exact ⟨p, vs, rfl, by rw [upd_ne np]; exact h0, by rw [upd_ne np]; exact h3, dkeeps kp _ _ h5 h4, h5⟩
      | m es =>
        obtain ⟨p, vs, rfl, h0, h3, h4, h5⟩ := h2
        have np : p ≠ l := fun z => own rfl (by rw [z])
        exact ⟨p, vs, rfl, by rw [upd_ne np]; exact h0, by rw [upd_ne np]; exact h3, h4.keep kp h5, h5⟩
      | k l' es =>
        obtain ⟨kv', rfl, ⟨o, h3⟩, h4, h5⟩ := h2
        exact ⟨kv', rfl, ⟨o, bB _ _ h3⟩, h4.keep kp h5, h5⟩
      | g R => exact R.mono h2 bB
      | o C ds =>
        obtain ⟨a, dx, l2, vs, rfl, h3, h0, h4, h5, h6⟩ := h2
        have np : l2 ≠ l := fun z => by subst z; rw [hl] at h4; cases h4
        exact ⟨a, dx, l2, vs, rfl, bB _ _ h3, by rw [upd_ne np]; exact h0, by rw [upd_ne np]; exact h4, dkeeps kp _ _ h6 h5, h6⟩
  · rcases set_get hj with ⟨rfl, e⟩ | ⟨ne, e⟩
    · cases e
      cases oj
    · rcases set_get hk with ⟨rfl, e'⟩ | ⟨ne', e'⟩
      · cases e'
        cases ok
      · exact S.sep j k t u w e e' oj ok wj wk
theorem StOk.unlock (S : StOk K H0 B H σ env) {i : Nat} {kvs : List (List Key × PyData)} {l : Addr} {kv : List (List Key × V)} {od : Obj} (hi : env[i]? = some (some (.k l kvs))) (h0l : H0 l = none) (hB : B l = some (.frz od (.dT kv))) (hp : plainE (env.set i none) = true) :
    StOk K H0 (fun b => if b = l then none else B b) (upd H l (.dT kv)) σ (env.set i (some (.m kvs))) := by
  have hlt : i < env.length := (List.getElem?_eq_some_iff.mp hi).1
  have hl := S.e1 _ _ hB
  have kp : Keep H (upd H l (.dT kv)) := keep_upd hl (fun xs z => by cases z)
  have oth : ∀ j, j ≠ i → (env.set i none)[j]? = env[j]? := fun j ne => List.getElem?_set_ne (fun z => ne z.symm)
  have new : ∀ (j : Nat) (t : SV), (env.set i (some (.m kvs)))[j]? = some (some t) → ∃ v, σ[j]? = some (some v) ∧ SvOk K (fun b => if b = l then none else B b) (upd H l (.dT kv)) v t ∧ (j ≠ i → t.own = true → v ≠ .ref l) := fun j t hj => by
    rcases set_get hj with ⟨rfl, e⟩ | ⟨ne, e⟩
    · cases e
      obtain ⟨v, h1, kv', rfl, ⟨o, h3⟩, h4, h5⟩ := S.sl j _ hi
      rw [hB] at h3
      cases h3
      exact ⟨_, h1, ⟨l, kv, rfl, by show (if l = l then none else B l) = none; rw [if_pos rfl], upd_same, h4.keep kp h5, h5⟩, fun z => absurd rfl z⟩
    · obtain ⟨w, h1, h2⟩ := S.sl j t e
      refine ⟨w, h1, ?_⟩
      have e2 := (oth j ne).trans e
      cases t with
      | d x =>
        refine ⟨?_, fun _ z => by cases z⟩
        rcases h2 with h | h
        · exact .inl (rp_drop hB h)
        · exact .inr ⟨h.1, dkeep kp _ _ h.1 h.2⟩
      | l ds =>
        obtain ⟨p, vs, rfl, h0, h3, h4, h5⟩ := h2
        have np : p ≠ l := fun z => by subst z; rw [hB] at h0; cases h0
        exact ⟨⟨p, vs, rfl, by show (if p = l then none else B p) = none; rw [if_neg np]; exact h0, by rw [upd_ne np]; exact h3, dkeeps kp _ _ h5 h4, h5⟩, fun _ _ z => np (by injection z)⟩
      | m es =>
        obtain ⟨p, vs, rfl, h0, h3, h4, h5⟩ := h2
        have np : p ≠ l := fun z => by subst z; rw [hB] at h0; cases h0
        exact ⟨⟨p, vs, rfl, by show (if p = l then none else B p) = none; rw [if_neg np]; exact h0, by rw [upd_ne np]; exact h3, h4.keep kp h5, h5⟩, fun _ _ z => np (by injection z)⟩
      | k l' es => exact (plainE_k hp e2).elim
      | g R => exact (plainE_g hp e2).elim
      | o C ds =>
        obtain ⟨a, dx, l2, vs, rfl, h3, h0, h4, h5, h6⟩ := h2
        have np : l2 ≠ l := fun z => by subst z; rw [hB] at h0; cases h0
        have na : a ≠ l := fun z => by subst z; rw [hB] at h3; cases h3
        exact ⟨⟨a, dx, l2, vs, rfl, by show (if a = l then none else B a) = _; rw [if_neg na]; exact h3, by show (if l2 = l then none else B l2) = none; rw [if_neg np]; exact h0, by rw [upd_ne np]; exact h4, dkeeps kp _ _ h6 h5, h6⟩, fun _ _ z => na (by injection z)⟩
  refine ⟨fun b o h => ?_, fun b o h => ?_, by rw [List.length_set]; exact S.len, fun j t hj => let ⟨v, a, b, _⟩ := new j t hj; ⟨v, a, b⟩, fun j m t u w hj hm oj om wj wm => ?_⟩
  · show (if b = l then none else B b) = some o
    rw [if_neg (ne_of_none h h0l)]
    exact S.e0 _ _ h
  · have h : (if b = l then none else B b) = some o := h
    split at h
    · cases h
    · rename_i hne
      rw [upd_ne hne]
      exact S.e1 _ _ h
  · obtain ⟨v1, a1, _, c1⟩ := new j t hj
    obtain ⟨v2, a2, _, c2⟩ := new m u hm
    obtain ⟨v, g1, kv', rfl, _⟩ := S.sl i _ hi
    rcases set_get hj with ⟨rfl, e⟩ | ⟨ne, e⟩
    · rcases set_get hm with ⟨rfl, e'⟩ | ⟨ne', e'⟩
      · rfl
      · rw [g1] at wj
        cases wj
        rw [wm] at a2
        cases a2
        exact absurd rfl (c2 ne' om)
    · rcases set_get hm with ⟨rfl, e'⟩ | ⟨ne', e'⟩
      · rw [g1] at wm
        cases wm
        rw [wj] at a1
        cases a1
        exact absurd rfl (c1 ne oj)
      · exact S.sep j m t u w e e' oj om wj wm
end

theorem KvD.at {K : PySem.W.Frag} {H : Hp} {k : List Key} {v : V} : ∀ {kv : List (List Key × V)} {kvs : List (List Key × PyData)} {m : Nat}, KvD K H kv kvs → kv[m]? = some (k, v) → (kvs.getD m ([], .none)).1 = k
  | _, _, _, .nil, h => by simp at h
  | p :: _, q :: _, 0, .cons g t, h => by
    simp at h
    subst h
    exact g.1.symm
  | _ :: _, _ :: _, m + 1, .cons g t, h => by
    have := KvD.at (m := m) t (by simpa using h)
    simpa using this
section
variable {X : Cx} {H0 : Hp} {env : En} {D : Ends} {rest body : List Stmt} {pos px py pz pt p : Pos} {x y z : Str} {i j l0 k : Nat} {kvs : List (List Key × PyData)} {kt : Nat} {u v : Nat → PyData} {e : Expr}
/-- for a, b in d, d an own dict -/
theorem run_forKT (E : Addr → Nat → En) (hi : nmIx z X.N 0 = some i) (hv : Vis X.env.scope z) (he : env[i]? = some (some (.m kvs))) (hj : nmIx x X.N 0 = some j) (hl : nmIx y X.N 0 = some l0) (hN : X.N.Nodup) (hx : Loc X.env.scope x) (hy : Loc X.env.scope y) (hp : PassesOwn (model X.prog X.w) X.A X.env X.xe)
    (hE : ∀ l m, (E l m)[i]? = some (some (.k l kvs))) (hk : ∀ m, m < kvs.length → kD (kvs.getD m ([], .none)).1 = .tuple [u m, v m] ∧ fz (u m) = true ∧ fz (v m) = true) (h0 : ∀ l, Le (E l 0) (env.set i (some (.k l kvs))))
    (turn : ∀ (l : Addr) (m : Nat) (Hl : Hp) (D' : Ends), m < kvs.length → D'.nx = NX X Hl (E l (m + 1)) → Run X Hl (((E l m).set j (some (.d (u m)))).set l0 (some (.d (v m)))) body D')
    (hpl : ∀ l, plainE ((E l kvs.length).set i none) = true) (done : ∀ l, Run X H0 ((E l kvs.length).set i (some (.m kvs))) rest D) (hc : X.calm = true := by rfl) (hfo : ∀ w, foldedSetIterable (.Name z pz) X.env w = pure w := by intro _; rfl)
    (hb : (z == ("__debug__" : Str)) = false := by decide) (hcd : (z == ("__classdict__" : Str)) = false := by decide)
    (hfx : X.fn x = true ∨ X.env.scope.names.lookup x = some .local := by first | exact .inl rfl | exact .inr rfl) (hfy : X.fn y = true ∨ X.env.scope.names.lookup y = some .local := by first | exact .inl rfl | exact .inr rfl)
    (h2 : (assignEach [.Name x px, .Name y py] X.env).map (·.2) = assign (.Name x px) X.env :: (assignEach [.Name y py] X.env).map (·.2) := by rfl)
    (h3 : (assignEach [.Name y py] X.env).map (·.2) = assign (.Name y py) X.env :: (assignEach [] X.env).map (·.2) := by rfl)
    (hn : (assignEach [.Name x px, .Name y py] X.env).length = 2 := by rfl) (hst : (assignEach [.Name x px, .Name y py] X.env).findIdx? (·.1) = none := by rfl) : Run X H0 env (.For (.Tuple [.Name x px, .Name y py] kt pt) (.Name z pz) body [] pos :: rest) D := by
  refine run_cons (ps_lock (ps_for hp hc (pi_keys (pe_var (nm0 hi) hv hb hcd)) (pg_tup hc (pgs_cons (pg_name hN (nm0 hj) hx hfx) (pgs_cons (pg_name hN (nm0 hl) hy hfy) pgs_nil h3) h2) hn hst) (tR_ok (X := X) (body := body)) hfo)) fun B σ H S => ?_
  obtain ⟨vv, hvv, l, kv, rfl, hB, hl1, hkv, hf⟩ := S.sl i _ he
  refine ⟨l, .dT kv, hl1, trivial, fun od => ?_⟩
  have S1 := S.lock he hvv hB hl1 hkv hf od
  have hlen := KvD.len hkv
  refine ⟨_, hvv, l, od, rfl, .inr ⟨kv, upd_same, ?_⟩⟩
  have W := walk_keysT (d := l) (o := od) (kvs := kv)
  rw [hlen] at W
  have hgs := gs_tup2 (K := X.K) (gs_name j) (gs_name l0)
  refine for_it W (fun m σ' H' => ∃ B', Same (upd B l (.frz od (.dT kv))) B' ∧ StOk X.K H0 B' H' σ' (E l m)) ⟨_, Same.refl _, S1.le (h0 l)⟩ (fun m σ' H' _ ⟨B', b, S'⟩ => S'.e1 _ _ (b _ _ upd_same)) ?_ ?_
  · rintro m xx σ' H' H'' hlt ⟨B', b, S'⟩ ⟨rfl, kk, v', q, h4, rfl, h5⟩
    have hkm := hk m hlt
    rw [KvD.at hkv h4] at hkm
    have r : Rp X.K H'' (.ref q) (.tuple [u m, v m]) := by
      rw [← hkm.1]
      exact kD_rp h5
    have S2 : StOk X.K B' B' H'' σ' (E l m) := ⟨Same.refl _, S'.e1, S'.len, S'.sl, S'.sep⟩
    refine hgs B' B' σ' H'' _ (.tuple [u m, v m]) (E l m) _ S2 r (by simp [fz, fzs, hkm.2.1, hkm.2.2]) ⟨_, _, rfl, trivial, trivial⟩ fun σ3 S3 => ?_
    have T := fun DD : Ends => turn l m B' { DD with nx := NX X B' (E l (m + 1)), ct := NX X B' (E l (m + 1)), bk := fun _ _ => False } hlt rfl B' σ3 H'' S3
    have g : ∀ σ5 H5, NX X B' (E l (m + 1)) σ5 H5 → ∃ B', Same (upd B l (.frz od (.dT kv))) B' ∧ StOk X.K H0 B' H5 σ5 (E l (m + 1)) := fun σ5 H5 ⟨B5, S5⟩ => ⟨B5, b.trans S5.e0, ⟨S'.e0.trans S5.e0, S5.e1, S5.len, S5.sl, S5.sep⟩⟩
    exact tR_mono (T _) g (fun _ _ z => z) (fun _ _ z => z.elim) g
  · rintro σ' H' ⟨B', b, S'⟩
    have hB' := b _ _ (upd_same (H := B) (a := l) (o := .frz od (.dT kv)))
    exact ⟨S'.e1 _ _ hB', done l _ _ _ (S'.unlock (hE l _) (S.e0.free hB) hB' (hpl l))⟩
/-- key in name, the dict locked -/
theorem ev_kin {l : Addr} {ky : List Key} (hr : Room k X.A) (hN : nmIx z X.N 0 = some i) (hv : Vis X.env.scope z) (he : env[i]? = some (some (.k l kvs))) (hi : Ev X env e (kD ky))
    (hb : (z == ("__debug__" : Str)) = false := by decide) (hcd : (z == ("__classdict__" : Str)) = false := by decide) : Ev X env (.Compare e [.In] [.Name z pz] pos) (.bool (mval kvs ky).isSome) :=
  wkE (pe_cmp (pc_din (hu_of hr) hi (pe_var (nm0 hN) hv hb hcd)) rfl) fun σ H Q ⟨hE, q⟩ => ⟨hE, fun y H4 s4 d4 => by
    obtain ⟨v, h1, kv, rfl, h3, h4⟩ := hE i _ he
    obtain ⟨b, rfl, hb⟩ := kD_tup d4
    refine ⟨_, h1, l, valV kv ky, rfl, .inr ⟨kv, ky, b, same_rd s4 h3, rfl, hb, rfl⟩, ?_⟩
    rcases KvD.val h4 ky with ⟨z1, z2⟩ | ⟨v, d', g1, g2, g3⟩
    · rw [z1]
      have := q (.bl false) H4 s4
      rw [z2] at this
      exact this (.bl false)
    · rw [g1]
      have := q (.bl true) H4 s4
      rw [g2] at this
      exact this (.bl true)⟩
/-- name.count(i), a list of ints -/
theorem ev_lcount {o : Expr} {ns : List Int} {n : Int} {apos cpos : Pos} (ho : Ev X env o (.list (ns.map PyData.int))) (he : Ev X env e (.int n))
    (hse : starEach [e] X.env = (false, eval e X.env) :: starEach [] X.env := by rfl)
    (hbase : attributeBase o "count" X.env (eval o X.env) = eval o X.env := by rfl)
    (hfew : ((backTo cpos (starEach [e] X.env)).all (fun x => !x.1) && (backToKw cpos (keywordEach [] X.env)).all (fun x => x.1.isSome)
      && decide ([e].length + ([] : List Keyword).length + (if ([] : List Keyword).isEmpty then 0 else 1) < 30)) = true := by rfl)
    (hline : (apos.endLine == cpos.line) = true := by rfl) (hplain : (backTo cpos (starEach [] X.env)).any (·.1) = false := by rfl) : Ev X env (.Call (.Attribute o "count" apos) [e] [] cpos) (.int (ns.count n : Nat)) :=
  wkE (pe_bm PySem.F.plainAttrs_list PySem.F.slot_list_count PySem.F.type_list_count mt_lcount ho (ea_cons he ea_nil hse) hbase hfew hline hse hplain) fun σ H Q ⟨hE, q⟩ => ⟨hE, fun v H1 s1 d1 => by
    cases d1 with
    | lst hs ha =>
      rw [ints_of ha] at hs
      rename_i a vs
      refine ⟨?_, hE.mono s1, fun us H2 s2 d2 => ?_⟩
      · rcases hs with (h | ⟨o', h⟩) | ⟨o', its, n', h, hc, r⟩
        · exact .inl ⟨rfl, _, .of h⟩
        · exact .inl ⟨rfl, _, .inl (.inr ⟨o', h⟩)⟩
        · exact .inl ⟨rfl, _, .inr ⟨o', its, n', h, hc, r⟩⟩
      · cases d2 with
        | cons a1 b1 =>
          cases b1
          cases a1
          exact ⟨a, ns, n, rfl, rfl, s2.seq hs, q _ H2 (s1.trans s2) (.int _)⟩⟩
end
end Sw

/-! a range from its end; a call of a name within a tuple -/
namespace Sw
open PySem PySem.Spec PyProof.Rows L2
section
variable {X : Cx} {H0 : Hp} {env : En}
theorem its_revR {tg e : Expr} {p p2 p3 pos : Pos} {n : Nat} (hg : Gl X "reversed") (hm : X.mg "reversed" = none) (hg2 : Gl X "range") (hm2 : X.mg "range" = none) (he : Ev X env e (.int (n : Nat))) (h : n ≤ 1000000)
    (hs2 : starEach [e] X.env = (false, eval e X.env) :: starEach [] X.env := by rfl) (hs : starEach [.Call (.Name "range" p2) [e] [] p3] X.env = (false, eval (.Call (.Name "range" p2) [e] [] p3) X.env) :: starEach [] X.env := by rfl) :
    ItS X H0 env tg (.Call (.Name "reversed" p) [.Call (.Name "range" p2) [e] [] p3] [] pos) n (fun i => .int ((n : Int) - 1 - (i : Nat))) := ⟨_, pi_revR hg hm (prg_1 hg2 hm2 he hs2) hs, fun B σ H R S q => ⟨S.e, fun v H1 s1 d1 => by
  cases d1
  refine ⟨(n : Int), rfl, by omega, by omega, by omega, by omega, ?_⟩
  rw [show ((n : Int) - 0).toNat = n by omega]
  refine q _ H1 B _ _ s1 (S.grow s1) walk_rangeC (fun _ _ => trivial) fun m H' x H'' hi sB hy => ?_
  obtain ⟨rfl, rfl⟩ := hy
  refine ⟨Same.refl _, ?_⟩
  show Rp _ _ (V.int (0 + (n : Int) - 1 + (m : Int) * (-1))) (PyData.int ((n : Int) - 1 - (m : Int)))
  rw [show 0 + (n : Int) - 1 + (m : Int) * (-1) = (n : Int) - 1 - (m : Int) by omega]
  exact .int _⟩⟩
theorem el_compF {x : Str} {px pos : Pos} {iter elt tst : Expr} {scope sc : Scope} {N ps : List Str} {n : Nat} {item : Nat → PyData} {j : Nat} (S : FnScope N ps sc) (c : Nat → Bool) (v : Nat → PyData) (hj : nmIx x X.N 0 = some j) (hN : X.N.Nodup) (hok : blkC N sc scope [(x, j)] = true) (hI : ItE X env (.Name x px) iter n item)
    (hg : ∀ (s : Shared) (H : Hp) (C : Addr) (cl : List (Str × Addr)) (fp : List Addr), Loc (X.blk s H scope (compEnvC scope cl C X.env) fp).env.scope x ∧ ((X.blk s H scope (compEnvC scope cl C X.env) fp).fn x = true ∨ (X.blk s H scope (compEnvC scope cl C X.env) fp).env.scope.names.lookup x = some .local))
    (hfz : ∀ i, i < n → c i = true → fz (v i) = true) (hlen : n ≤ 1000000)
    (ht : ∀ (s : Shared) (H : Hp) (C : Addr) (cl : List (Str × Addr)) (fp : List Addr) i, i < n → EvT (X.blk s H scope (compEnvC scope cl C X.env) fp) ((env.set j none).set j (some (.d (item i)))) tst (c i))
    (he : ∀ (s : Shared) (H : Hp) (C : Addr) (cl : List (Str × Addr)) (fp : List Addr) i, i < n → c i = true → Ev (X.blk s H scope (compEnvC scope cl C X.env) fp) ((env.set j none).set j (some (.d (item i)))) elt (v i))
    (hc : X.calm = true := by rfl) (hel : X.N.length = env.length := by rfl) (hfo : ∀ x, foldedSetIterable iter X.env x = pure x := by intro _; rfl) (hnn : X.N = N := by rfl) (hss : X.env.scope = sc := by rfl) :
    EvL X env (.ListComp elt [⟨.Name x px, iter, [tst], 0⟩] scope pos) (((List.range n).filter c).map v) :=
  evl_compF [(x, j)] c v hc hN (hnn ▸ hss ▸ blkOk_by hok) hI (fun s H C cl fp => pg_name hN (nm0 hj) (hg s H C cl fp).1 (hg s H C cl fp).2) (ge_name j (by simp)) (fun _ _ => trivial) hfz hlen (fun s H C cl fp i hi => pts_one (ht s H C cl fp i hi)) he hel hfo
variable {D : Ends} {rest : List Stmt}
/-- name = [..], the fresh list held as data -/
theorem run_compB {tg iter elt : Expr} {ifs : List Expr} {scope : Scope} {y : Str} {py pos spos : Pos} {n : Nat} {item : Nat → PyData} {g : TG} {f : PyData → En → En} {ok : PyData → Prop} {ds : List PyData} (j : Nat) (own : List (Str × Nat)) (c : Nat → Bool) (v : Nat → PyData) (hc : X.calm = true) (hN : X.N.Nodup) (hok : BlkOk X.N X.env.scope scope own)
    (hI : ItE X env tg iter n item) (hg : ∀ (s : Shared) (H : Hp) (C : Addr) (cl : List (Str × Addr)) (fp : List Addr), PG (X.blk s H scope (compEnvC scope cl C X.env) fp) tg g) (hs : GE X.K (own.map (·.2)) g f ok) (hit : ∀ i, i < n → ok (item i)) (hfz : ∀ i, i < n → c i = true → fz (v i) = true) (hlen : n ≤ 1000000)
    (ht : ∀ (s : Shared) (H : Hp) (C : Addr) (cl : List (Str × Addr)) (fp : List Addr) i, i < n → PTs (X.blk s H scope (compEnvC scope cl C X.env) fp) ifs (tP X.K (f (item i) (wipeE env (own.map (·.2)))) (c i)))
    (he : ∀ (s : Shared) (H : Hp) (C : Addr) (cl : List (Str × Addr)) (fp : List Addr) i, i < n → c i = true → Ev (X.blk s H scope (compEnvC scope cl C X.env) fp) (f (item i) (wipeE env (own.map (·.2)))) elt (v i))
    (hj : X.N[j]? = some y) (hyl : X.env.scope.names.lookup y = some .local) (hsw : swapsWith (.ListComp elt [⟨tg, iter, ifs, 0⟩] scope pos) (some (.Name y py)) spos.line X.env = pure true)
    (hds : ((List.range n).filter c).map v = ds) (k : Run X H0 (env.set j (some (.d (.list ds)))) rest D)
    (hfo : ∀ x, foldedSetIterable iter X.env x = pure x := by intro _; rfl) :
    Run X H0 env (.Assign [.Name y py] (.ListComp elt [⟨tg, iter, ifs, 0⟩] scope pos) spos :: rest) D := by
  obtain ⟨wi, hi, hw⟩ := lc_main (tt := fun σ H Q => ∃ i, i < n ∧ tP X.K (f (item i) (wipeE env (own.map (·.2)))) (c i) σ H Q) (te := fun σ H Q => ∃ i, i < n ∧ c i = true ∧ tD X.K (f (item i) (wipeE env (own.map (·.2)))) (v i) σ H Q) c v hI hs hit hfz hlen (fun i hi σ H Q q => ⟨i, hi, q⟩) (fun i hi hci σ H Q q => ⟨i, hi, hci, q⟩)
  refine run_cons (ps_setLc hc hN hj hyl hsw hi hok hg (fun s H C cl fp => ⟨fun pins s' σ' H' Q' I' ⟨i, hi, q'⟩ => (ht s H C cl fp i hi).run pins s' σ' H' Q' I' q'⟩) (fun s H C cl fp => ⟨fun pins s' σ' H' Q' I' ⟨i, hi, hci, q'⟩ => (he s H C cl fp i hi hci).run pins s' σ' H' Q' I' q'⟩) hfo) fun B σ H S => hw σ H _ S.len ⟨S.e, fun l vs H1 s1 hl h1 d1 => ?_⟩
  have hb : hide B H H1 l = some (.lst vs) := by
    rw [hide_at (by rw [hl]; exact id)]
    exact h1
  rw [hds] at d1
  exact k _ _ _ ((S.hide s1).put (s := .d (.list ds)) (.inl (.lst (.of hb) (dkeeps (hide_keep s1) _ _ (hds ▸ fzs_of fun d hd => by
    obtain ⟨m, hm, rfl⟩ := List.mem_map.mp hd
    obtain ⟨hm1, hm2⟩ := List.mem_filter.mp hm
    exact hfz m (List.mem_range.mp hm1) hm2) d1))) fun z => by cases z)
theorem rs_compB {x y : Str} {px py pos spos : Pos} {iter elt : Expr} {scope sc : Scope} {N ps : List Str} {n : Nat} {item : Nat → PyData} {i j : Nat} {ds : List PyData} (S : FnScope N ps sc) (v : Nat → PyData) (hi : nmIx y X.N 0 = some i) (hyl : X.env.scope.names.lookup y = some .local) (hj : nmIx x X.N 0 = some j) (hN : X.N.Nodup) (hok : blkC N sc scope [(x, j)] = true) (hI : ItE X env (.Name x px) iter n item)
    (hg : ∀ (s : Shared) (H : Hp) (C : Addr) (cl : List (Str × Addr)) (fp : List Addr), Loc (X.blk s H scope (compEnvC scope cl C X.env) fp).env.scope x ∧ ((X.blk s H scope (compEnvC scope cl C X.env) fp).fn x = true ∨ (X.blk s H scope (compEnvC scope cl C X.env) fp).env.scope.names.lookup x = some .local))
    (hfz : ∀ i, i < n → fz (v i) = true) (hlen : n ≤ 1000000)
    (he : ∀ (s : Shared) (H : Hp) (C : Addr) (cl : List (Str × Addr)) (fp : List Addr) i, i < n → Ev (X.blk s H scope (compEnvC scope cl C X.env) fp) ((env.set j none).set j (some (.d (item i)))) elt (v i))
    (hds : (List.range n).map v = ds) (ha : (scope.names.any fun (n, k) => n == y && (k == .local || k == .cell)) = false)
    (k : Run X H0 (env.set i (some (.d (.list ds)))) rest D)
    (hk : X.env.scope.kind = .function := by rfl) (hl : (py.line == pos.line) = true := by rfl)
    (hc : X.calm = true := by rfl) (hfo : ∀ x, foldedSetIterable iter X.env x = pure x := by intro _; rfl) (hnn : X.N = N := by rfl) (hss : X.env.scope = sc := by rfl) :
    Run X H0 env (.Assign [.Name y py] (.ListComp elt [⟨.Name x px, iter, [], 0⟩] scope pos) spos :: rest) D :=
  run_compB i [(x, j)] (fun _ => true) v hc hN (hnn ▸ hss ▸ blkOk_by hok) hI (fun s H C cl fp => pg_name hN (nm0 hj) (hg s H C cl fp).1 (hg s H C cl fp).2) (ge_name j (by simp)) (fun _ _ => trivial) (fun i hi _ => hfz i hi) hlen (fun s H C cl fp i hi => ⟨fun pins s' σ' H' Q' I' q' => pts_nil.run pins s' σ' H' Q' I' (q'.2 H' (Same.refl _))⟩) (fun s H C cl fp i hi _ => he s H C cl fp i hi) (nm0 hi) hyl (sw_true hk hyl hl ha) (by rw [List.filter_eq_self.mpr (fun _ _ => rfl)]; exact hds) k hfo
end
end Sw

/-! what raises -/
namespace Sw
open PySem PySem.Spec PyProof.Rows L2
/-- an exception of the class C leaves -/
def tX (K : PySem.W.Frag) (W : WX) (env : En) (C : Addr) : TE := fun σ H _ => EnvE K H σ env ∧ ∀ H', Same H H' → W (.ref C) none σ H'
def tXT (K : PySem.W.Frag) (W : WX) (env : En) (C : Addr) : TT := fun σ H _ => EnvE K H σ env ∧ ∀ H', Same H H' → W (.ref C) none σ H'
abbrev EvX (X : Cx) (W : WX) (env : En) (e : Expr) (C : Addr) : Prop := PE X e (tX X.K W env C)
abbrev EtX (X : Cx) (W : WX) (env : En) (e : Expr) (C : Addr) : Prop := PT X e (tXT X.K W env C)
def spX (K : PySem.W.Frag) (R : List PyData → Addr → Prop) : Sp := fun vs H _ E => ∃ ds C, RpAll K H vs ds ∧ R ds C ∧ ∀ H', Same H H' → E (.ref C) none H'
structure CdX (P : Program) (w : World) (K : PySem.W.Frag) (mg : Str → Option Value) (base : Heap) (k : Nat) (x : Str) (sp : Sp) : Prop where
  ex : ∃ f fd ps, FnOk P w K mg base (L2.CX P w) k f fd ps sp ∧ mg x = some (.ref f) ∧ PySem.W.keepIn K (.ref f) = true ∧ Binds K fd ps []
/-- .. the function at f -/
structure FnX (P : Program) (w : World) (K : PySem.W.Frag) (mg : Str → Option Value) (base : Heap) (k : Nat) (f : Addr) (sp : Sp) : Prop where
  ex : ∃ fd ps, FnOk P w K mg base (L2.CX P w) k f fd ps sp ∧ PySem.W.keepIn K (.ref f) = true ∧ Binds K fd ps []
theorem CdX.fn {P : Program} {w : World} {K : PySem.W.Frag} {mg : Str → Option Value} {base : Heap} {k : Nat} {x : Str} {sp : Sp} (c : CdX P w K mg base k x sp) : ∃ f, mg x = some (.ref f) ∧ FnX P w K mg base k f sp := by
  obtain ⟨f, fd, ps, F, hm, hk, hb⟩ := c.ex
  exact ⟨f, hm, fd, ps, F, hk, hb⟩
theorem CdX.at {P : Program} {w : World} {K : PySem.W.Frag} {mg : Str → Option Value} {base : Heap} {k : Nat} {x : Str} {sp : Sp} {f : Addr} (c : CdX P w K mg base k x sp) (h : mg x = some (.ref f)) : FnX P w K mg base k f sp := by
  obtain ⟨f', h', F⟩ := c.fn
  rw [h] at h'
  cases h'
  exact F
theorem pe_none {X : Cx} {e : Expr} : PE X e (fun _ _ _ => False) := ⟨fun _ _ _ _ _ _ q => q.elim⟩
section
variable {X : Cx} {W : WX} {env : En} {a b c e fe idx : Expr} {es : List Expr} {pos p : Pos} {C f : Addr}
theorem EvX.imp {W' : WX} (h : EvX X W env e C) (g : ∀ σ H, W' (.ref C) none σ H → W (.ref C) none σ H) : EvX X W' env e C := wkE h fun σ H Q ⟨hE, q⟩ => ⟨hE, fun H' s => g σ H' (q H' s)⟩
theorem ev_callX (tk : Takes X W) {x : Str} {k j : Nat} {R : List PyData → Addr → Prop} {ds : List PyData} (c : CdX X.prog X.w X.K X.mg X.base k x (spX X.K R)) (hr : Room j X.A) (hk : k ≤ j) (hg : Gl X x) (ha : EvA X env (e :: es) ds) (hR : R ds C)
    (hdb : (x == ("__debug__" : Str)) = false := by decide) (he : starEach (e :: es) X.env = (false, eval e X.env) :: starEach es X.env := by rfl) (hpl : (backTo pos (starEach es X.env)).any (·.1) = false := by rfl) :
    EvX X W env (.Call (.Name x p) (e :: es) [] pos) C := by
  obtain ⟨f, fd, ps, F, hm, hk', hb⟩ := c.ex
  exact wkE (pe_callS F (hr.mono hk) hg hm hk' hb (fun σ => passAt tk σ) ha hdb he hpl) fun σ H Q ⟨hE, q⟩ => ⟨hE, fun vs H1 s1 d1 => ⟨ds, C, d1, hR, fun H2 s2 => q H2 (s1.trans s2)⟩⟩
/-! functions from a list -/
def tF (K : PySem.W.Frag) (env : En) (f : Addr) : TE := fun σ H Q => EnvE K H σ env ∧ ∀ H', Same H H' → Q (.ref f) H'
def tFs (K : PySem.W.Frag) (env : En) (fs : List Addr) : TA := fun σ H Q => EnvE K H σ env ∧ ∀ H', Same H H' → Q (fs.map V.ref) H'
abbrev EvF (X : Cx) (env : En) (e : Expr) (f : Addr) : Prop := PE X e (tF X.K env f)
abbrev EvFs (X : Cx) (env : En) (es : List Expr) (fs : List Addr) : Prop := PA X es (tFs X.K env fs)
theorem ef_nil : EvFs X env [] [] := wkA pa_nil fun σ H Q ⟨_, q⟩ => q H (Same.refl H)
theorem ef_cons {x : Str} {fs : List Addr} (hg : Gl X x) (hm : X.mg x = some (.ref f)) (hr : EvFs X env es fs) (hdb : (x == ("__debug__" : Str)) = false := by decide) (hs : starEach (.Name x p :: es) X.env = (false, eval (.Name x p) X.env) :: starEach es X.env := by rfl) : EvFs X env (.Name x p :: es) (f :: fs) :=
  wkA (pa_cons (pe_glob (v := .ref f) hg hm rfl hdb) hr hs) fun σ H Q ⟨he, q⟩ => ⟨he, fun H1 s1 => q H1 s1⟩
theorem atI_map {fs : List Addr} {i : Int} (h : atI fs i = some f) : atI (fs.map V.ref) i = some (.ref f) := by
  unfold atI at h ⊢
  rw [List.length_map]
  cases q : ixN fs.length i with
  | none => rw [q] at h; cases h
  | some j =>
    rw [q] at h
    show (fs.map V.ref)[j]? = _
    rw [List.getElem?_map, show fs[j]? = some f from h]
    rfl
theorem ef_pick {fs : List Addr} {i : Int} (hfs : EvFs X env es fs) (hi : Ev X env idx (.int i)) (h : atI fs i = some f) (hl : fs.length ≤ 1000 := by simp) (hs : PlainIx idx := by exact fun _ _ => rfl) : EvF X env (.Subscript (.List es p) idx pos) f :=
  wkE (pe_ix ix_list (pe_lst hfs) hi hs) fun σ H Q ⟨hE, q⟩ => ⟨hE, fun H1 s1 => ⟨by rw [List.length_map]; exact Nat.le_of_lt (small1000 hl), fun l hl => ⟨hE.mono (s1.trans (same_new hl)), fun u H2 s2 d2 => by
    cases d2
    exact ⟨l, _, i, .ref f, rfl, rfl, SqL.of (s2 _ _ upd_same), atI_map h, q H2 (s1.trans ((same_new hl).trans s2))⟩⟩⟩⟩
theorem ev_callVX (tk : Takes X W) {k j : Nat} {R : List PyData → Addr → Prop} {ds : List PyData} (F : FnX X.prog X.w X.K X.mg X.base k f (spX X.K R)) (hr : Room j X.A) (hk : k ≤ j) (hf : EvF X env fe f) (ha : EvA X env (e :: es) ds) (hR : R ds C)
    (hfe : eval (.Call fe (e :: es) [] pos) X.env = (do callWith pos (← eval fe X.env) [] (backTo pos (starEach (e :: es) X.env)) (backToKw pos (keywordEach [] X.env))) := by rfl) (he : starEach (e :: es) X.env = (false, eval e X.env) :: starEach es X.env := by rfl) (hpl : (backTo pos (starEach es X.env)).any (·.1) = false := by rfl) :
    EvX X W env (.Call fe (e :: es) [] pos) C := by
  obtain ⟨fd, ps, F, hk', hb⟩ := F.ex
  refine ⟨fun pins s σ H Q I h => ?_⟩
  rw [hfe]
  refine wpAny_bind (thn (hf.run pins s σ H (fun v H1 => v = .ref f ∧ Same H H1) I ⟨h.1, fun H' s => ⟨rfl, s⟩⟩) fun u s1 ⟨v, H1, I1, r1, q1⟩ => ?_)
  obtain ⟨rfl, sm⟩ := q1
  cases r1
  refine PySem.W.callWith_K (h₀ := X.base) I.ok.mod.kin hk' (thn (ha.run pos pins s1 σ H1 (fun vs H2 => spX X.K R vs H2 Q (WE W σ)) I1 ⟨h.1.mono sm, fun vs H2 s2 d2 => ⟨ds, C, d2, hR, fun H3 s3 => h.2 H3 (sm.trans (s2.trans s3))⟩⟩) fun us s2 ⟨vs, H2, I2, r, q⟩ => ⟨I2.kIn, ?_⟩) he hpl
  exact run_fnS F (hr.mono hk) hb (passAt tk σ) I2 r q
theorem ev_ifX {z : Bool} (hc : EvT X env c z) (h1 : z = true → EvX X W env a C) (h2 : z = false → EvX X W env b C) : EvX X W env (.IfExp c a b pos) C := by
  cases z with
  | true => exact wkE (pe_ifExp hc (h1 rfl) pe_none) fun σ H Q ⟨he, q⟩ => ⟨he, fun H1 s1 => iteT ⟨he.mono s1, fun H2 s2 => q H2 (s1.trans s2)⟩⟩
  | false => exact wkE (pe_ifExp hc pe_none (h2 rfl)) fun σ H Q ⟨he, q⟩ => ⟨he, fun H1 s1 => iteF ⟨he.mono s1, fun H2 s2 => q H2 (s1.trans s2)⟩⟩
theorem et_neXl (ha : EvX X W env a C) (hm : behindInMarks .NotEq b = false := by exact nomark _) : EtX X W env (.Compare a [.NotEq] [b] pos) C := wkT (pt_cmpR op_ne ha pe_none hm) fun σ H Q h => h
theorem et_neXr {x : PyData} (ha : Ev X env a x) (hb : EvX X W env b C) (hm : behindInMarks .NotEq b = false := by exact nomark _) : EtX X W env (.Compare a [.NotEq] [b] pos) C := wkT (pt_cmpR op_ne ha hb hm) fun σ H Q ⟨hE, q⟩ => ⟨hE, fun v H1 s1 d1 => ⟨hE.mono s1, fun H2 s2 => q H2 (s1.trans s2)⟩⟩
theorem ev_dict0 (p : Pos) : Ev X env (.Dict [] [] p) (.dict []) := wkE pe_dnewK fun σ H Q ⟨hE, q⟩ l hl => q _ _ (same_new hl) (.emp upd_same)
end
/-- an exception class of the program's own -/
structure ExD (K : PySem.W.Frag) (mg : Str → Option Value) (x : Str) (C : Addr) : Prop where
  q : PySem.W.excIn K C [.type "ValueError", .type "Exception", .type "BaseException", .type "object"] "ValueError.__new__" = true
  g : mg x = some (.ref C)
  k : PySem.W.keepIn K (.ref C) = true
  b : PySem.W.subIn K (.ref C) (.type "BaseException") = some true
  t : PySem.W.typeIn K (.ref C) = some (.type "type")
section
variable {X : Cx} {W : WX} {H0 : Hp} {env : En} {D : Ends} {rest : List Stmt} {c e : Expr} {pos p p2 : Pos} {C : Addr}
theorem run_exprX (he : EvX X W env e C) (q : ∀ B σ H, StOk X.K H0 B H σ env → W (.ref C) none σ H) (hs : swapsWith e none pos.line X.env = pure false := by rfl) : Run X H0 env (.Expr e pos :: rest) D :=
  run_cons (ps_expr he hs) fun B σ H S => ⟨S.e, fun H1 s1 => q B σ H1 (S.grow s1)⟩
theorem run_retX (he : EvX X W env e C) (q : ∀ B σ H, StOk X.K H0 B H σ env → W (.ref C) none σ H) : Run X H0 env (.Return (some e) pos :: rest) D :=
  run_cons (ps_ret he) fun B σ H S => ⟨S.e, fun H1 s1 => q B σ H1 (S.grow s1)⟩
theorem run_ifX {u v : List Stmt} (hc : EtX X W env c C) (q : ∀ B σ H, StOk X.K H0 B H σ env → W (.ref C) none σ H) : Run X H0 env (.If c u v pos :: rest) D :=
  run_cons (ps_if hc (tR_ok (X := X) (body := u)) (tR_ok (X := X) (body := v))) fun B σ H S => ⟨S.e, fun H1 s1 => q B σ H1 (S.grow s1)⟩
theorem run_raise {x m : Str} {j : Nat} {pos' : Pos} (tk : Takes X W) (hx : ExD X.K X.mg x C) (hg : Gl X x) (q : ∀ B σ H, StOk X.K H0 B H σ env → W (.ref C) none σ H) (hc : X.calm = true := by rfl) (hdb : (x == ("__debug__" : Str)) = false := by decide) :
    Run X H0 env (.Raise (some (.Call (.Name x p) [.Constant (.str m) j p2] [] pos)) none pos' :: rest) D :=
  run_cons (ps_raise hc tk (pmk_own PySem.F.excBase_ValueError hx.q hx.g hx.k (raises_own hx.b hx.t) hg hdb)) fun B σ H S => q B σ H S
/-! try -/
def isRef (a : Addr) : Fix where
  p _ _ v := v = .ref a
  mono := fun h _ => h
theorem run_tryX {x n : Str} {c : Value} {i : Nat} {body suite : List Stmt} {b₀ : Stmt} {np pos' : Pos} (hs : X.stack = X.env :: X.outer) (hf : X.env.frame = some X.env.locals) (hN : X.N.Nodup) (hi : nmIx n X.N 0 = some i) (hln : X.env.kindOf n = some .local) (hc : Names X x c) (hx : PySem.W.exmOne X.K (.ref C) c = some true)
    (hb : ∀ (W : WX) (pn : List (Addr × Obj)) (xe : Value → Shared → Prop), Takes (X.tr pn xe) W → (∀ B σ H, StOk X.K H0 B H σ env → W (.ref C) none σ H) → ∀ D', Run (X.tr pn xe) H0 env body D')
    (hsu : ∀ (a : Addr) (oe : Obj) (pn : List (Addr × Obj)) (D' : Ends), Zc (.ref C) none oe → (∃ vs, oe.data = .fields vs) → D'.rt = D.rt → Run (X.suite a ((a, oe) :: pn)) H0 (env.set i (some (.g (isRef a)))) (b₀ :: suite) D') :
    Run X H0 env (.Try body [.ExceptHandler (some (.Name x np)) (some n) (b₀ :: suite) pos'] [] [] pos :: rest) D := by
  refine run_cons (ps_try_as (tb := fun W D σ H => ∀ (pn : List (Addr × Obj)) (xe : Value → Shared → Prop), Takes (X.tr pn xe) W → tR (X.tr pn xe) body D σ H) (ts := fun a cls d D σ H => ∀ (oe : Obj) (pn : List (Addr × Obj)), Zc cls d oe → (∃ vs, oe.data = .fields vs) → tR (X.suite a ((a, oe) :: pn)) (b₀ :: suite) D σ H)
    hs hf hN (nm0 hi) hln hc takes0 (fun W pn xe tk _ => ⟨fun pins s σ H D I h => tR_ok.run pins s σ H D I (h pn xe tk)⟩) (fun a oe cls d pn hz hd => ⟨fun pins s σ H D I h => tR_ok.run pins s σ H D I (h oe pn hz hd)⟩)) fun B σ H S => ?_
  intro pn xe tk
  exact hb _ pn xe tk (fun B σ H S => ⟨true, hx, fun _ a ha oe pn hz hd => hsu a oe pn ⟨fun σ' H' => tR X rest D (σ'.set i none) H', D.rt, fun σ' H' => D.bk (σ'.set i none) H', fun σ' H' => D.ct (σ'.set i none) H'⟩ hz hd rfl B _ H (S.put (s := .g (isRef a)) rfl fun z => by cases z), fun z => by cases z⟩) _ B σ H S
theorem ev_isE {a : Addr} {oe : Obj} {pn : List (Addr × Obj)} {i : Nat} {n T : Str} {C2 : Addr} {r : Bool} {pe pT : Pos} (hC : ExcC X.K C) (hz : Zc (.ref C) none oe) (hf : ∃ vs, oe.data = .fields vs) (hN : nmIx n X.N 0 = some i) (hv : Vis X.env.scope n) (he : env[i]? = some (some (.g (isRef a))))
    (hg : Gl X "isinstance") (hm : X.mg "isinstance" = none) (hgT : Gl X T) (hmT : X.mg T = some (.ref C2)) (hk : PySem.W.kitOne X.K (.ref C) (.ref C2) = some r) (hb : (n == ("__debug__" : Str)) = false := by decide) (hcd : (n == ("__classdict__" : Str)) = false := by decide)
    (hdb : (T == ("__debug__" : Str)) = false := by decide)
    (hs : starEach [.Name n pe, .Name T pT] X.env = (false, eval (.Name n pe) X.env) :: starEach [.Name T pT] X.env := by rfl) (hs2 : starEach [.Name T pT] X.env = (false, eval (.Name T pT) X.env) :: starEach [] X.env := by rfl) (hpl : (backTo pos (starEach [.Name T pT] X.env)).any (·.1) = false := by rfl) :
    Ev (X.suite a ((a, oe) :: pn)) env (.Call (.Name "isinstance" p) [.Name n pe, .Name T pT] [] pos) (.bool r) :=
  wkE (pe_callB (X := X.suite a ((a, oe) :: pn)) (call_isE hC hz hf) hg hm (by decide +kernel) (pa_cons (pe_var (nm0 hN) hv hb hcd) (pa_cons (pe_glob (v := .ref C2) hgT hmT rfl hdb) pa_nil hs2) hs) (by decide) (by decide) hs hpl) fun σ H Q ⟨hE, q⟩ => by
    obtain ⟨v, h1, h2⟩ := hE i _ he
    have h2 : v = .ref a := h2
    subst h2
    exact ⟨_, h1, .ref C2, .ref C2, r, rfl, fun u z => z, hk, q _ H (Same.refl H) (.bl r)⟩
theorem ev_isEB {a : Addr} {oe : Obj} {pn : List (Addr × Obj)} {i : Nat} {n T : Str} {t : String} {r : Bool} {pe pT : Pos} (hC : ExcC X.K C) (hz : Zc (.ref C) none oe) (hf : ∃ vs, oe.data = .fields vs) (hN : nmIx n X.N 0 = some i) (hv : Vis X.env.scope n) (he : env[i]? = some (some (.g (isRef a))))
    (hg : Gl X "isinstance") (hm : X.mg "isinstance" = none) (hgT : Gl X T) (hmT : X.mg T = none) (hvT : bootBuiltins T = some (.type t)) (hk : PySem.W.kitOne X.K (.ref C) (.type t) = some r) (hb : (n == ("__debug__" : Str)) = false := by decide) (hcd : (n == ("__classdict__" : Str)) = false := by decide)
    (hn : T ≠ "__name__" := by decide) (hdb : (T == ("__debug__" : Str)) = false := by decide)
    (hs : starEach [.Name n pe, .Name T pT] X.env = (false, eval (.Name n pe) X.env) :: starEach [.Name T pT] X.env := by rfl) (hs2 : starEach [.Name T pT] X.env = (false, eval (.Name T pT) X.env) :: starEach [] X.env := by rfl) (hpl : (backTo pos (starEach [.Name T pT] X.env)).any (·.1) = false := by rfl) :
    Ev (X.suite a ((a, oe) :: pn)) env (.Call (.Name "isinstance" p) [.Name n pe, .Name T pT] [] pos) (.bool r) :=
  wkE (pe_callB (X := X.suite a ((a, oe) :: pn)) (call_isE hC hz hf) hg hm (by decide +kernel) (pa_cons (pe_var (nm0 hN) hv hb hcd) (pa_cons (pe_bltn (v := .ty t) hgT hmT hvT rfl hn hdb) pa_nil hs2) hs) (by decide) (by decide) hs hpl) fun σ H Q ⟨hE, q⟩ => by
    obtain ⟨v, h1, h2⟩ := hE i _ he
    have h2 : v = .ref a := h2
    subst h2
    exact ⟨_, h1, .ty t, .type t, r, rfl, fun u z => z, hk, q _ H (Same.refl H) (.bl r)⟩
end
/-! a def that raises -/
abbrev CxX (P : Program) (w : World) (K : PySem.W.Frag) (mg : Str → Option Value) (base : Heap) (N : List Str) (qual : Str) (st : Stmt) (f : Addr) (cdv : Value) (A : Around) (outer : List Env) (s : Shared) (H : Hp) (E : XK) : Cx := cxOf (L2.CX P w) P w K mg base N qual (defScope st) f cdv A outer s H E
theorem cdX {P : Program} {w : World} {K : PySem.W.Frag} {mg : Str → Option Value} {base : Heap} {x : Str} {st : Stmt} {N ps : List Str} {k : Nat} {R : List PyData → Addr → Prop} (F : Df K mg x st ps) (S : FnScope N ps (defScope st)) (hl : ∀ ds r, R ds r → ds.length = ps.length)
    (body : ∀ (f : Addr) (cdv : Value) (A : Around) (outer : List Env) (s : Shared) (H : Hp) (E : XK), Room k (CxX P w K mg base N x st f cdv A outer s H E).A → (CxX P w K mg base N x st f cdv A outer s H E).N.Nodup → ∀ (W : WX), Takes (CxX P w K mg base N x st f cdv A outer s H E) W → ∀ (ds : List PyData) (C : Addr) (D : Ends), R ds C →
      (∀ env B σ H', StOk K H B H' σ env → W (.ref C) none σ H') → Run (CxX P w K mg base N x st f cdv A outer s H E) H (env0 N.length ds) (defBody st) D) : CdX P w K mg base (k + 1) x (spX K R) := by
  obtain ⟨f, fd, hF, hm, hb⟩ := F.ex
  refine ⟨f, fd, ps, ?_, hm, hF.kp, hb⟩
  refine hF.okX S (fun vs H Q E h => ?_) (fun cdv A outer s H vs Q E hr h => ?_)
  · obtain ⟨ds, r, hd, hR, _⟩ := h
    rw [RpAll.len hd, hl ds r hR]
  · obtain ⟨ds, r, hd, hR, q⟩ := h
    exact body f cdv A outer s H E hr S.nd (fun cls d _ H => E cls d H) (takes_of rfl rfl rfl rfl) ds r { nx := fun _ H' => Q .non H', rt := Q } hR (fun env B σ H' S => q H' (S.e0.trans S.e1)) H _ H (st0 hd)
end Sw

/-! sets of tuples with a table of up to 512 slots -/
namespace Sw
open PySem PySem.Spec PyProof.Rows L2

/-! ### masks -/
structure MaskG (m : Nat) : Prop where
  odd : m % 2 = 1
  top : m ≤ 511
  per : ∀ i j, i ≤ m → j ≤ m → ∃ k, k ≤ m ∧ lcgI m i k = j
def orb (m : Nat) : Nat → Nat → List Nat
  | 0, _ => []
  | n + 1, x => x :: orb m n ((x * 5 + 1) % (m + 1))
theorem lcgI_in (m : Nat) : ∀ k x, lcgI m ((x * 5 + 1) % (m + 1)) k = lcgI m x (k + 1)
  | 0, _ => rfl
  | k + 1, x => by
    show (lcgI m _ k * 5 + 1) % (m + 1) = (lcgI m x (k + 1) * 5 + 1) % (m + 1)
    rw [lcgI_in m k x]
theorem orb_mem (m : Nat) : ∀ n x y, y ∈ orb m n x → ∃ k, k < n ∧ lcgI m x k = y
  | 0, _, _, h => by cases h
  | n + 1, x, y, h => by
    rcases List.mem_cons.mp h with e | h
    · exact ⟨0, Nat.succ_pos n, e.symm⟩
    · obtain ⟨k, h1, h2⟩ := orb_mem m n _ y h
      exact ⟨k + 1, by omega, (lcgI_in m k x).symm.trans h2⟩
theorem lcgN_I (m : Nat) : ∀ k, lcgN m k = lcgI m 0 k
  | 0 => rfl
  | k + 1 => by
    show (lcgN m k * 5 + 1) % (m + 1) = (lcgI m 0 k * 5 + 1) % (m + 1)
    rw [lcgN_I m k]
theorem orb511 : ((List.range 512).all fun j => (orb 511 512 0).contains j) = true := by decide +kernel
theorem back511 : lcgI 511 0 512 = 0 := by decide +kernel
theorem maskG511 : MaskG 511 := by
  refine ⟨by decide, Nat.le_refl _, ?_⟩
  have at_ : ∀ j, j ≤ 511 → ∃ b, b < 512 ∧ lcgN 511 b = j := fun j hj => by
    have h := List.all_eq_true.mp orb511 j (List.mem_range.mpr (by omega))
    obtain ⟨b, hb, e⟩ := orb_mem 511 512 0 j (by simpa using h)
    exact ⟨b, hb, (lcgN_I 511 b).trans e⟩
  have turn : ∀ k, lcgN 511 (512 + k) = lcgN 511 k := fun k => by
    induction k with
    | zero => exact (lcgN_I 511 512).trans back511
    | succ k ih =>
      show (lcgN 511 (512 + k) * 5 + 1) % 512 = (lcgN 511 k * 5 + 1) % 512
      rw [ih]
  intro i j hi hj
  obtain ⟨a, ha, ea⟩ := at_ i hi
  obtain ⟨b, hb, eb⟩ := at_ j hj
  subst ea
  by_cases c : a ≤ b
  · exact ⟨b - a, by omega, by rw [lcgN_add, show a + (b - a) = b by omega, eb]⟩
  · exact ⟨512 + b - a, by omega, by rw [lcgN_add, show a + (512 + b - a) = 512 + b by omega, turn, eb]⟩
theorem maskG_of {m : Nat} (h : MaskOk m) : MaskG m := ⟨mask_odd h, by rcases h with rfl | rfl | rfl <;> decide, fun _ _ a b => lcgI_all h a b⟩
section
variable {m : Nat}
theorem MaskG.run (g : MaskG m) (h : Int) {j : Nat} (hj : j ≤ m) : ∃ n, n ≤ m + 12 ∧ runI m (SetTable.bits h) n = j := by
  obtain ⟨k, a, b⟩ := g.per _ j (runI_le m (SetTable.bits h) 12) hj
  exact ⟨12 + k, by omega, (runI_tail (bits_lt h) k).trans b⟩
theorem MaskG.hit (g : MaskG m) (h : Int) {j : Nat} (hj : j ≤ m) : ∃ k, k < 10 * SetTable.turns m ∧ way m h k = j := by
  obtain ⟨n, a, b⟩ := g.run h hj
  obtain ⟨k, c, d⟩ := run_nth m (SetTable.bits h) n
  refine ⟨k, by show k < 10 * (m + 15); omega, ?_⟩
  show SetTable.Probe.j (nth m _ k) = j
  rw [d]
  exact b
theorem way_in {h : Int} (k : Nat) : way m h k ≤ m := by
  have q := runEnd_bd (m := m) (i := SetTable.bits h % (m + 1)) (Nat.le_of_lt_succ (Nat.mod_lt _ (Nat.succ_pos m)))
  have r : (nth m (runAt m (SetTable.bits h % (m + 1)) (SetTable.bits h)) k).j + (nth m (runAt m (SetTable.bits h % (m + 1)) (SetTable.bits h)) k).more ≤ m := nth_in k _ (by unfold runAt; simp only; omega)
  exact Nat.le_trans (Nat.le_add_right _ _) r
/-- the first place of the way that is not in use -/
theorem MaskG.first (g : MaskG m) (h : Int) (p : Nat → Prop) {j : Nat} (hj : j ≤ m) (hp : ¬ p j) : ∃ K, K < 10 * SetTable.turns m ∧ ¬ p (way m h K) ∧ ∀ k, k < K → p (way m h k) := by
  obtain ⟨k, a, b⟩ := g.hit h hj
  obtain ⟨K, c, d, e⟩ := st_least (p := fun k => ¬ p (way m h k)) k (by show ¬ p (way m h k); rw [b]; exact hp)
  exact ⟨K, by omega, d, fun i hi => Classical.not_not.mp (e i hi)⟩
end

/-! ### tables -/
structure Tb (t : SetTable) (hs : List Int) : Prop where
  up : Ris t.place.toList
  nodm : t.dummies = #[]
  cnt : t.place.toList.length = hs.length
  msk : MaskG t.mask
  le : ∀ x ∈ t.place.toList, x ≤ t.mask
  met : ∀ (i : Nat) (h : Int) (j : Nat), hs[i]? = some h → t.place.toList[i]? = some j → ∃ k, way t.mask h k = j ∧ ∀ c, c < k → way t.mask h c ∈ t.place.toList
section
variable {t : SetTable} {hs : List Int}
theorem Tb.free (T : Tb t hs) (hl : hs.length ≤ t.mask) (h : Int) : ∃ K, K < 10 * SetTable.turns t.mask ∧ way t.mask h K ∉ t.place.toList ∧ ∀ k, k < K → way t.mask h k ∈ t.place.toList := by
  obtain ⟨j, a, b⟩ := st_missing t.place.toList (t.mask + 1) (by rw [T.cnt]; omega)
  exact T.msk.first h (· ∈ t.place.toList) (Nat.le_of_lt_succ a) b
theorem Tb.ahead (T : Tb t hs) {h : Int} {K i j : Nat} (hK : way t.mask h K ∉ t.place.toList) (a : hs[i]? = some h) (b : t.place.toList[i]? = some j) : ∃ c, c < K ∧ way t.mask h c = j := by
  obtain ⟨c, e, f⟩ := T.met i h j a b
  refine ⟨c, Nat.lt_of_not_le fun z => ?_, e⟩
  rcases Nat.lt_or_eq_of_le z with z | z
  · exact hK (f K z)
  · rw [z, e] at hK
    exact hK (List.mem_of_getElem? b)
theorem Tb.put (T : Tb t hs) {h : Int} {K : Nat} (hK : way t.mask h K ∉ t.place.toList) (hb : ∀ k, k < K → way t.mask h k ∈ t.place.toList) :
    SetTable.below t.place (way t.mask h K) ≤ hs.length ∧ Tb (t.put (way t.mask h K)).1 (hs.take (SetTable.below t.place (way t.mask h K)) ++ h :: hs.drop (SetTable.below t.place (way t.mask h K))) := by
  have pp := put_place t (way t.mask h K)
  have cut := (below_cut T.up (way t.mask h K)).1
  have hno : t.place[SetTable.below t.place (way t.mask h K)]? ≠ some (way t.mask h K) := fun z => hK (List.mem_of_getElem? (i := SetTable.below t.place (way t.mask h K)) (by rw [Array.getElem?_toList]; exact z))
  have hris := ris_insert T.up hno
  have hlen := T.cnt
  rw [← Array.length_toList] at cut
  generalize hq : SetTable.below t.place (way t.mask h K) = q at *
  have hw : way t.mask h K ≤ t.mask := way_in K
  have inn : ∀ x, x ∈ (t.put (way t.mask h K)).1.place.toList ↔ x = way t.mask h K ∨ x ∈ t.place.toList := fun x => by rw [pp]; exact mem_ins
  refine ⟨by omega, ?_, put_dm T.nodm _, ?_, T.msk, fun x hx => ?_, fun i h' j' a b => ?_⟩
  · show Ris (SetTable.insertAt t.place (SetTable.below t.place (way t.mask h K)) (way t.mask h K)).toList
    rw [hq]
    exact hris
  · rw [pp, len_ins _ cut, len_ins _ (by omega), hlen]
  · rcases (inn x).mp hx with rfl | hx
    · exact hw
    · exact T.le x hx
  · have more : ∀ {k : Nat}, (∀ c, c < k → way t.mask h' c ∈ t.place.toList) → ∀ c, c < k → way (t.put (way t.mask h K)).1.mask h' c ∈ (t.put (way t.mask h K)).1.place.toList := fun z c hc => (inn _).mpr (.inr (z c hc))
    rw [pp] at b
    rw [tins_get t.place.toList cut] at b
    rw [tins_get hs (by omega)] at a
    split at a
    · rename_i z
      rw [if_pos z] at b
      obtain ⟨k, e, f⟩ := T.met i h' j' a b
      exact ⟨k, e, more f⟩
    · rename_i z
      rw [if_neg z] at b
      split at a
      · rename_i y
        rw [if_pos y] at b
        cases a
        cases b
        exact ⟨K, rfl, more hb⟩
      · rename_i y
        rw [if_neg y] at b
        obtain ⟨k, e, f⟩ := T.met (i - 1) h' j' a b
        exact ⟨k, e, more f⟩
end

/-! ### laid anew -/
section
variable {m : Nat}
theorem freeG (g : MaskG m) (owner : Array (Option Nat)) (h : Int) {j : Nat} (hj : j ≤ m) (hf : oAt owner j = none) :
    ∃ K, SetTable.layClean.free m owner (SetTable.turns m) (SetTable.bits h % (m + 1)) (SetTable.bits h) = some (way m h K) ∧ oAt owner (way m h K) = none ∧ ∀ k, k < K → oAt owner (way m h k) ≠ none := by
  obtain ⟨n, hn, e⟩ := g.run h hj
  have ew : way m h (off m (SetTable.bits h % (m + 1)) (SetTable.bits h) n) = j := by
    unfold way
    rw [nth_off, itL_run]
    exact e
  obtain ⟨K, a, b, c⟩ := st_least (p := fun k => oAt owner (way m h k) = none) _ (show oAt owner (way m h (off m (SetTable.bits h % (m + 1)) (SetTable.bits h) n)) = none by rw [ew]; exact hf)
  have c' : ∀ k, k < K → (oAt owner (way m h k)).isNone = false := fun k hk => by
    have := c k hk
    cases q : oAt owner (way m h k) with
    | none => exact absurd q this
    | some x => rfl
  exact ⟨K, free_spec m owner (SetTable.turns m) n _ _ K (by show n < m + 15; omega) a c' (by rw [show oAt owner (nth m (runAt m (SetTable.bits h % (m + 1)) (SetTable.bits h)) K).j = none from b]; rfl), b, c⟩
theorem ownG (g : MaskG m) {done : List Int} {owner : Array (Option Nat)} (O : Own m done owner) (hl : done.length ≤ m) (h : Int) :
    ∃ j, SetTable.layClean.free m owner (SetTable.turns m) (SetTable.bits h % (m + 1)) (SetTable.bits h) = some j ∧ Own m (done ++ [h]) (owner.setIfInBounds j (some done.length)) := by
  obtain ⟨ps, hp, hin⟩ := O.ps
  obtain ⟨j0, a0, b0⟩ := st_missing ps (m + 1) (by omega)
  have f0 : oAt owner j0 = none := Classical.byContradiction fun z => b0 (hin j0 (by omega) z)
  obtain ⟨K, a, b, c⟩ := freeG g owner h (Nat.le_of_lt_succ a0) f0
  have wm : way m h K ≤ m := way_in K
  generalize hJ : way m h K = J at *
  have hs : J < owner.size := by rw [O.sz]; omega
  have get : ∀ i, oAt (owner.setIfInBounds J (some done.length)) i = if i = J then some done.length else oAt owner i := fun i => by
    split
    · rename_i e
      rw [e]
      exact oAt_set_self _ hs
    · rename_i e
      exact oAt_set_ne _ e
  refine ⟨J, a, ?_, ?_, ?_, ?_⟩
  · rw [Array.size_setIfInBounds, O.sz]
  · intro j k hj e
    rw [get] at e
    have keep : ∀ {h' : Int} {L : Nat}, (∀ c, c < L → oAt owner (way m h' c) ≠ none) → ∀ c, c < L → oAt (owner.setIfInBounds J (some done.length)) (way m h' c) ≠ none := fun z c hc => by
      rw [get]
      split
      · simp
      · exact z c hc
    split at e
    · rename_i ej
      cases e
      exact ⟨h, K, by simp, by rw [hJ, ej], keep c⟩
    · obtain ⟨h', L, x, y, z⟩ := O.at_ j k hj e
      have lt : k < done.length := (List.getElem?_eq_some_iff.mp x).1
      exact ⟨h', L, by rw [List.getElem?_append_left lt]; exact x, y, keep z⟩
  · intro k hk
    rw [List.length_append] at hk
    by_cases e : k = done.length
    · exact ⟨J, wm, by rw [get, if_pos rfl, e]⟩
    · obtain ⟨j, x, y⟩ := O.all k (by simp at hk; omega)
      refine ⟨j, x, ?_⟩
      rw [get, if_neg]
      · exact y
      · intro z
        rw [z, b] at y
        cases y
  · refine ⟨J :: ps, by simp [hp], fun j hj e => ?_⟩
    rw [get] at e
    split at e
    · rename_i ej
      rw [ej]
      exact List.mem_cons_self ..
    · exact List.mem_cons_of_mem _ (hin j hj e)
theorem layG (g : MaskG m) : ∀ (rest done : List Int) (owner : Array (Option Nat)), Own m done owner → done.length + rest.length ≤ m → ∃ owner' n, rest.foldl (stepF m) (some (owner, done.length)) = some (owner', n) ∧ Own m (done ++ rest) owner'
  | [], done, owner, O, _ => ⟨owner, done.length, rfl, by rw [List.append_nil]; exact O⟩
  | h :: rest, done, owner, O, hl => by
    simp only [List.length_cons] at hl
    obtain ⟨j, a, b⟩ := ownG g O (by omega) h
    have ih := layG g rest (done ++ [h]) _ b (by rw [List.length_append]; simp; omega)
    rw [List.append_assoc, List.length_append] at ih
    rw [List.foldl_cons, stepF_some a]
    exact ih
/-- a table laid anew from the hashes hs -/
theorem relaidG (t : SetTable) {hs : Array Int} {wanted M : Nat} (hw : SetTable.sizeAbove wanted - 1 = M) (g : MaskG M) (hn : hs.size ≤ M) :
    ∃ t' order, t.relaid hs wanted = some (t', order) ∧ order.toList.Perm (List.range hs.size) ∧ Tb t' (order.toList.map fun i => hs.getD i 0) ∧ t'.mask = M ∧ t'.led = t.led ∧ t'.plain = t.plain := by
  obtain ⟨owner, n, e, O⟩ := layG g hs.toList [] _ (Own.init M) (by rw [Array.length_toList]; simpa using hn)
  rw [List.nil_append] at O
  have e1 : SetTable.layClean M hs = some owner := by
    rw [layClean_eq]
    have e' : hs.toList.foldl (stepF M) (some (Array.replicate (M + 1) none, 0)) = some (owner, n) := e
    rw [e']
    rfl
  obtain ⟨r1, r2⟩ := ris_live (fun j => owner.getD j none) (List.range (M + 1)) List.pairwise_lt_range
  have nd : ((liveOf M owner).map (·.1)).Nodup := r1.imp Nat.ne_of_lt
  have all : ∀ k, k < hs.size → k ∈ (liveOf M owner).map (·.2) := fun k hk => by
    obtain ⟨j, x, y⟩ := O.all k (by simpa using hk)
    exact List.mem_map.mpr ⟨(j, k), (mem_live O.sz).mpr ⟨x, y⟩, rfl⟩
  have len : (liveOf M owner).length = hs.size := by
    obtain ⟨ps, x, y⟩ := O.ps
    have h1 := nat_nodup_len ((liveOf M owner).map (·.1)) ps nd fun j hj => by
      obtain ⟨⟨j', k⟩, u, rfl⟩ := List.mem_map.mp hj
      obtain ⟨v, w⟩ := (mem_live O.sz).mp u
      exact y _ v (by simp [w])
    have h2 := nat_nodup_len (List.range hs.size) _ List.nodup_range fun k hk => all k (List.mem_range.mp hk)
    simp only [List.length_map, List.length_range] at h1 h2
    have : hs.toList.length = hs.size := rfl
    omega
  refine ⟨tabOf t M owner, ((liveOf M owner).map (·.2)).toArray, ?_, ?_, ⟨r1, rfl, ?_, g, fun x hx => ?_, fun i h j a b => ?_⟩, rfl, rfl, rfl⟩
  · rw [relaid_eq, hw, e1]
    rfl
  · exact perm_range hs.size _ (by simp [len]) all
  · show ((liveOf M owner).map (·.1)).length = _
    simp
  · have := List.mem_range.mp (r2 x hx)
    show x ≤ M
    omega
  · have b : ((liveOf M owner).map (·.1))[i]? = some j := b
    rw [List.getElem?_map] at a b
    have a : (((liveOf M owner).map (·.2))[i]?).map (fun i => hs.getD i 0) = some h := a
    rw [List.getElem?_map] at a
    cases q : (liveOf M owner)[i]? with
    | none => rw [q] at b; cases b
    | some p =>
      rw [q] at a b
      cases a
      cases b
      obtain ⟨u, v⟩ := (mem_live (j := p.1) (k := p.2) O.sz).mp (List.mem_of_getElem? q)
      obtain ⟨h', K, x, y, z⟩ := O.at_ p.1 p.2 u v
      have eh : hs.getD p.2 0 = h' := by
        rw [Array.getElem?_toList] at x
        simp [Array.getD_eq_getD_getElem?, x]
      show ∃ k, way M (hs.getD p.2 0) k = p.1 ∧ ∀ c, c < k → way M (hs.getD p.2 0) c ∈ (liveOf M owner).map (·.1)
      rw [eh]
      refine ⟨K, y, fun c hc => ?_⟩
      cases w : oAt owner (way M h' c) with
      | none => exact absurd w (z c hc)
      | some k => exact List.mem_map.mpr ⟨(way M h' c, k), (mem_live O.sz).mpr ⟨way_in c, w⟩, rfl⟩
end
end Sw

/-! sets of tuples in the heap: looking, adding, making from a list -/
namespace Sw
open PySem PySem.Spec PyProof.Rows L2
abbrev TL2 := List (Addr × List Int)
structure SG (P : Program) (w : World) (h : Heap) (a : Addr) (L : TL2) (es : Array (Int × Value)) (ep : Nat) (t : SetTable) : Prop where
  ob : ∃ o, h.get? a = some o ∧ o.ExactSet ∧ o.data = .set es ep t
  rw_ : es.toList = rowsOf P w L
  tb : Tb t (L.map fun p => thash P w p.2)
  nd : (L.map (·.2)).Nodup
  tu : ∀ p ∈ L, IsT P w h p.2 p.1
  pl : t.plain = true
  ld : w.params.followText "set-order" = true ∨ t.led = true
  rm : L.length * 5 < t.mask * 3
  ms : t.mask = 7 ∨ t.mask = 31 ∨ t.mask = 127 ∨ t.mask = 511
/-- the c-th step of a search -/
abbrev pr (m : Nat) (h : Int) (c : Nat) : SetTable.Probe := nth m (runAt m (SetTable.bits h % (m + 1)) (SetTable.bits h)) c
theorem pr_add (m : Nat) (h : Int) (c q : Nat) : nth m (pr m h c) q = pr m h (c + q) := (nth_add m c _ q).symm
theorem nth_dm (m : Nat) : ∀ (n : Nat) (p : SetTable.Probe), p.dummy = none → (nth m p n).dummy = none
  | 0, _, h => h
  | n + 1, p, h => nth_dm m n _ (by unfold adv; split <;> exact h)
section
variable {P : Program} {w : World} {A : Around} {E : Value → Shared → Prop} {s : Shared} {a : Addr} {L : TL2} {es : Array (Int × Value)} {ep : Nat} {t : SetTable} {x : Addr} {k : List Int}
theorem SG.sz (R : SG P w s.heap a L es ep t) : es.size = L.length := by
  have := congrArg List.length R.rw_
  simpa [rowsOf] using this
theorem SG.pz (R : SG P w s.heap a L es ep t) : t.place.toList.length = L.length := by rw [R.tb.cnt, List.length_map]
theorem fits_by {t : SetTable} {n : Nat} (h1 : t.place.toList.length = n) (h2 : t.dummies = #[]) (h3 : n ≤ t.mask) : t.fits n = true := by
  unfold SetTable.fits SetTable.fill
  rw [h2]
  have : t.place.size = n := h1
  simp [this, h3]
theorem SG.fit (R : SG P w s.heap a L es ep t) : t.fits es.size = true := fits_by (R.pz.trans R.sz.symm) R.tb.nodm (by have := R.rm; rw [R.sz]; omega)
theorem SG.en (R : SG P w s.heap a L es ep t) {i : Nat} {p : Addr × List Int} (h : L[i]? = some p) : es[i]? = some (thash P w p.2, Value.ref p.1) := by
  rw [← Array.getElem?_toList, R.rw_]
  unfold rowsOf
  rw [List.getElem?_map, h]
  rfl
theorem SG.odd (R : SG P w s.heap a L es ep t) : ¬ t.gaveWay = true := by
  unfold SetTable.gaveWay
  rw [R.tb.msk.odd]
  decide
theorem SG.at (R : SG P w s.heap a L es ep t) {i j : Nat} (h : t.place.toList[i]? = some j) : ∃ p, L[i]? = some p ∧ p ∈ L := by
  have := (List.getElem?_eq_some_iff.mp h).1
  rw [R.pz] at this
  exact ⟨L[i], List.getElem?_eq_getElem this, List.getElem_mem this⟩
/-- looking from the c-th step on -/
theorem SG.look (R : SG P w s.heap a L es ep t) (hx : IsT P w s.heap k x) (hu : A.units < cLine) {K : Nat} (k0 : K < 10 * SetTable.turns t.mask) (k1 : way t.mask (thash P w k) K ∉ t.place.toList) (k2 : ∀ c, c < K → way t.mask (thash P w k) c ∈ t.place.toList)
    {Q : SetFound → Shared → Prop} (yes : k ∈ L.map (·.2) → Q (.there none) s) (no : k ∉ L.map (·.2) → Q (.free (way t.mask (thash P w k) K) false) s) :
    ∀ (f c : Nat) (st : Option SetTable.Probe), c ≤ K → K - c < f → st.getD (t.probeStart (thash P w k)) = pr t.mask (thash P w k) c →
      (∀ (i : Nat) (p : Addr × List Int), L[i]? = some p → p.2 = k → ∃ d, c ≤ d ∧ d < K ∧ t.place.toList[i]? = some (way t.mask (thash P w k) d)) → wpAny (model P w) A (setSearchFrom a (.ref x) (thash P w k) true f st) Q E s := by
  obtain ⟨o, ho, hex, hd⟩ := R.ob
  have live := fun {i j : Nat} (h : t.place.toList[i]? = some j) => slot_live R.tb.up h
  intro f
  induction f with
  | zero => intro c _ _ hf; exact absurd hf (Nat.not_lt_zero _)
  | succ f ih =>
    intro c st hc hf hst hre
    rw [setSearchFrom_succ]
    refine wpAny_bind (wpAny_setState_of ho hd R.fit ?_)
    dsimp only
    refine wp_if_neg R.odd ?_
    try refine wpAny_bind (wpAny_pure ?_)
    rw [hst]
    have step : ∀ q, (nth t.mask (pr t.mask (thash P w k) c) q).j = way t.mask (thash P w k) (c + q) := fun q => by rw [pr_add]
    have G := go_spec t R.tb.up R.tb.nodm (fun i => (es[i]?.map (·.1)).getD 0) (thash P w k) (10 * SetTable.turns t.mask) (K - c) (pr t.mask (thash P w k) c) (nth_dm _ _ _ rfl) (by omega)
      (fun q hq => by rw [step]; exact k2 _ (by omega)) (by rw [step, Nat.add_sub_cancel' hc]; exact k1)
    -- where the sought one stands, its hash is met
    have same : ∀ (i : Nat) (p : Addr × List Int), L[i]? = some p → p.2 = k → (fun i => (es[i]?.map (·.1)).getD 0) i = thash P w k := fun i p hi e => by
      simp only [R.en hi, e]
      rfl
    rcases G with ⟨q, i, hq, hi, hh, hno, hp⟩ | ⟨hno, hp⟩
    · have hp : t.probe (fun i => (es[i]?.map (·.1)).getD 0) (thash P w k) (pr t.mask (thash P w k) c) = _ := hp
      rw [hp]
      dsimp only
      rw [step] at hi
      obtain ⟨p, hpi, hpm⟩ := R.at hi
      have go : wpAny (model P w) A (searchRest a (.ref x) (thash P w k) true f es t (nth t.mask (pr t.mask (thash P w k) c) q).j i (nth t.mask (pr t.mask (thash P w k) c) (q + 1))) Q E s := by
        rw [step, pr_add]
        unfold searchRest
        rw [R.en hpi]
        dsimp only
        refine wpAny_bind (wpAny_holding (wpAny_eqBool_tuple hu (R.tu p hpm) hx (wpAny_bind (wpAny_setState_of ho hd R.fit ?_))))
        dsimp only
        rcases Classical.em (p.2 = k) with e | e
        · exact wp_if_pos (by simp [e]) (wpAny_pure (yes (List.mem_map.mpr ⟨p, hpm, e⟩)))
        refine wp_if_neg (by simp [e]) ?_
        try refine wpAny_bind (wpAny_pure ?_)
        rw [sameMem]
        dsimp only
        have hl := live hi
        simp only [if_true, hl, R.en hpi]
        refine wpAny_bind (wpAny_isSame_ref_self (wpAny_bind (wpAny_pure ?_)))
        simp only [if_true]
        refine wp_if_neg (by simp [e]) (ih (c + (q + 1)) _ (by omega) (by omega) rfl fun i' p' h1 h2 => ?_)
        obtain ⟨d, d1, d2, d3⟩ := hre i' p' h1 h2
        refine ⟨d, ?_, d2, d3⟩
        rcases Nat.lt_trichotomy d (c + q) with z | z | z
        · exact (hno (d - c) i' (by omega) (by rw [step, Nat.add_sub_cancel' d1]; exact d3) (same i' p' h1 h2)).elim
        · rw [z] at d3
          have e2 := live d3
          rw [hl] at e2
          injection e2 with e2
          rw [← e2, hpi] at h1
          cases h1
          exact (e h2).elim
        · omega
      cases hl : t.led with
      | true =>
        refine wp_if_neg (by simp [hl]) ?_
        try refine wpAny_bind (wpAny_pure ?_)
        exact go
      | false =>
        refine wp_if_pos (by simp [hl]) (wpAny_bind (seen_tup hx (fun y hy => ?_) ?_))
        · obtain ⟨e, he, rfl⟩ := List.mem_map.mp hy
          have he : e ∈ es.toList := by
            have : e ∈ es ∧ e.1 = thash P w k := by simpa using he
            simpa using this.1
          rw [R.rw_] at he
          obtain ⟨p', hp', rfl⟩ := List.mem_map.mp he
          exact ⟨_, _, rfl, R.tu p' hp'⟩
        · refine wp_if_neg Bool.false_ne_true ?_
          try refine wpAny_bind (wpAny_pure ?_)
          exact go
    · have hp : t.probe (fun i => (es[i]?.map (·.1)).getD 0) (thash P w k) (pr t.mask (thash P w k) c) = _ := hp
      rw [hp, step, Nat.add_sub_cancel' hc]
      refine wpAny_pure (no fun z => ?_)
      obtain ⟨p, hp, e⟩ := List.mem_map.mp z
      obtain ⟨i, hi⟩ := List.mem_iff_getElem?.mp hp
      obtain ⟨d, d1, d2, d3⟩ := hre i p hi e
      exact hno (d - c) i (by omega) (by rw [step, Nat.add_sub_cancel' d1]; exact d3) (same i p hi e)
theorem SG.find (R : SG P w s.heap a L es ep t) (hx : IsT P w s.heap k x) (hu : A.units < cLine) {Q : SetFound → Shared → Prop} (yes : k ∈ L.map (·.2) → Q (.there none) s)
    (no : ∀ K, k ∉ L.map (·.2) → way t.mask (thash P w k) K ∉ t.place.toList → (∀ c, c < K → way t.mask (thash P w k) c ∈ t.place.toList) → Q (.free (way t.mask (thash P w k) K) false) s) : wpAny (model P w) A (setSearch a (.ref x) (thash P w k) true) Q E s := by
  have hr := R.rm
  obtain ⟨K, k0, k1, k2⟩ := R.tb.free (by rw [List.length_map]; omega) (thash P w k)
  have ht : 10 * SetTable.turns t.mask ≤ 5260 := by
    have := R.tb.msk.top
    show 10 * (t.mask + 15) ≤ 5260
    omega
  refine R.look hx hu k0 k1 k2 yes (fun z => no K z k1 k2) 100000 0 none (Nat.zero_le _) (by omega) rfl fun i p hi e => ?_
  have lt := (List.getElem?_eq_some_iff.mp hi).1
  have hj : t.place.toList[i]? = some (t.place.toList[i]'(by rw [R.pz]; exact lt)) := List.getElem?_eq_getElem _
  obtain ⟨d, d1, d2⟩ := R.tb.ahead k1 (i := i) (by rw [List.getElem?_map, hi, ← e]; rfl) hj
  exact ⟨d, Nat.zero_le _, d1, by rw [hj, d2]⟩
theorem size_308 : SetTable.sizeAbove (SetTable.grown 77) = 512 := by decide +kernel
/-- the table grows -/
theorem relayG {o : Obj} (ho : s.heap.get? a = some o) (hex : o.ExactSet) (hd : o.data = .set es ep t) (h1 : es.toList = rowsOf P w L) (h2 : Tb t (L.map fun p => thash P w p.2)) (h3 : (L.map (·.2)).Nodup) (h4 : ∀ p ∈ L, IsT P w s.heap p.2 p.1) (h5 : t.plain = true)
    (h6 : w.params.followText "set-order" = true ∨ t.led = true) (h7 : L.length ≤ t.mask) {n M : Nat} (hw : SetTable.sizeAbove n = M + 1) (g : MaskG M) (hM : M = 7 ∨ M = 31 ∨ M = 127 ∨ M = 511) (hr : L.length * 5 < M * 3) {Q : Unit → Shared → Prop}
    (q : ∀ h' L' es' ep' t', Heap.SameBut a s.heap h' → SG P w h' a L' es' ep' t' → L'.Perm L → Q () { s with heap := h' }) : wpAny (model P w) A (setRelay a n) Q E s := by
  have sz : es.size = L.length := by
    have := congrArg List.length h1
    simpa [rowsOf] using this
  have top := g.top
  obtain ⟨t', od, e1, e2, e3, e4, e5, e6⟩ := relaidG t (hs := es.map (·.1)) (wanted := n) (M := M) (by omega) g (by rw [Array.size_map, sz]; omega)
  rw [Array.size_map, sz] at e2
  obtain ⟨L2, r1, r2, r3⟩ := order_rows L es od h1 e2
  have sz2 : (od.filterMap (es[·]?)).size = es.size := by
    have := congrArg List.length r1
    rw [Array.length_toList] at this
    rw [this, sz]
    simp [rowsOf, r2.length_eq]
  rw [setRelay_eq]
  refine wpAny_bind (wpAny_setState_of ho hd (fits_by (by rw [h2.cnt, List.length_map, sz]) h2.nodm (by omega)) ?_)
  dsimp only
  refine wp_if_neg (by rw [hw, sizeLine_eq]; omega) ?_
  try refine wpAny_bind (wpAny_pure ?_)
  rw [e1]
  dsimp only
  refine wpAny_bind (wp_if_neg (by simp [sz2]) ?_)
  try refine wpAny_bind (wpAny_pure ?_)
  refine wpAny_pure ?_
  dsimp only
  have same := Heap.SameBut.update s.heap a (Obj.putSet (od.filterMap (es[·]?)) t')
  refine wpAny_storeSet_of ho hd (q _ L2 (od.filterMap (es[·]?)) (ep + 1) t' same ⟨⟨_, store_at ho hd, hex, rfl⟩, r1, ?_, (r2.map _).nodup_iff.mpr h3, fun p hp => isT_same (h4 p (r2.mem_iff.mp hp)) ho hd same, e6.trans h5, ?_, ?_, ?_⟩ r2) (by rw [sz2, sz, sizeLine_eq]; omega)
  · rw [r3]
    exact e3
  · rw [e5]
    exact h6
  · rw [r2.length_eq, e4]
    exact hr
  · rw [e4]
    exact hM
/-- a tuple goes into the set -/
theorem SG.add (R : SG P w s.heap a L es ep t) (hx : IsT P w s.heap k x) (hu : A.units < cLine) (few : L.length ≤ 300) {Q : Bool → Shared → Prop}
    (q : ∀ b h' L' es' ep' t', Heap.SameBut a s.heap h' → SG P w h' a L' es' ep' t' → (k ∈ L.map (·.2) ∧ L' = L) ∨ (k ∉ L.map (·.2) ∧ L'.Perm ((x, k) :: L)) → Q b { s with heap := h' }) : wpAny (model P w) A (setAddHashed a (.ref x) (thash P w k)) Q E s := by
  obtain ⟨o, ho, hex, hd⟩ := R.ob
  have rm := R.rm
  have sz := R.sz
  unfold setAddHashed
  refine wpAny_holding ?_
  rw [show (100000 : Nat) = 99999 + 1 from rfl, setAddHashedIn_succ]
  refine wpAny_bind (wpAny_setState_of ho hd R.fit ?_)
  dsimp only
  refine wp_if_neg (by simp [byScan, Value.scannable]) ?_
  try refine wpAny_bind (wpAny_pure ?_)
  refine wpAny_bind (R.find hx hu (fun z => wpAny_pure (q false s.heap L es ep t (.refl a s.heap) R (.inl ⟨z, rfl⟩))) fun K kn k1 k2 => ?_)
  dsimp only
  refine wpAny_bind (wpAny_setState_of ho hd R.fit ?_)
  dsimp only
  obtain ⟨pn, T⟩ := R.tb.put k1 k2
  rw [List.length_map] at pn
  have f1 : (t.put (way t.mask (thash P w k) K)).1.plain = true := R.pl
  have f2 : (t.put (way t.mask (thash P w k) K)).1.mask = t.mask := rfl
  have f3 : w.params.followText "set-order" = true ∨ (t.put (way t.mask (thash P w k) K)).1.led = true := R.ld
  have f4 : (t.put (way t.mask (thash P w k) K)).2 = SetTable.below t.place (way t.mask (thash P w k) K) := rfl
  generalize hpp : SetTable.below t.place (way t.mask (thash P w k) K) = p at *
  generalize t.put (way t.mask (thash P w k) K) = tp at *
  obtain ⟨t1, p1⟩ := tp
  dsimp only at *
  subst f4
  have pm := put_perm L p1 (x, k)
  have er : (SetTable.insertAt es p1 (thash P w k, Value.ref x)).toList = rowsOf P w (L.take p1 ++ (x, k) :: L.drop p1) := by rw [SetTable.toList_insertAt, rows_put, R.rw_]
  have eh : (L.map fun p => thash P w p.2).take p1 ++ thash P w k :: (L.map fun p => thash P w p.2).drop p1 = (L.take p1 ++ (x, k) :: L.drop p1).map fun p => thash P w p.2 := by simp
  rw [eh] at T
  have nd : ((L.take p1 ++ (x, k) :: L.drop p1).map (·.2)).Nodup := (pm.map (·.2)).nodup_iff.mpr (List.nodup_cons.mpr ⟨kn, R.nd⟩)
  generalize SetTable.insertAt es p1 (thash P w k, Value.ref x) = es1 at *
  have ln := pm.length_eq
  rw [List.length_cons] at ln
  generalize L.take p1 ++ (x, k) :: L.drop p1 = L1 at *
  have sz1 : es1.size = L.length + 1 := by
    have := congrArg List.length er
    rw [Array.length_toList] at this
    simp [this, rowsOf, ln]
  first
    | (refine wpAny_bind ?_; refine wp_if_pos f1 ?_; refine hashBy_tup hx ?_)
    | refine wp_if_pos f1 (wpAny_bind (hashBy_tup hx ?_))
  simp only [if_true]
  have same := Heap.SameBut.update s.heap a (Obj.putSet es1 t1)
  have ho1 := store_at (es' := es1) (t' := t1) ho hd
  refine wpAny_bind (wpAny_storeSet_of ho hd ?_ (by rw [sz1, sizeLine_eq]; omega))
  generalize s.heap.update a (Obj.putSet es1 t1) = h1 at *
  have tu : ∀ p ∈ L1, IsT P w h1 p.2 p.1 := fun p hp => by
    rcases List.mem_cons.mp (pm.mem_iff.mp hp) with rfl | hp
    · exact isT_same hx ho hd same
    · exact isT_same (R.tu p hp) ho hd same
  have fill : t1.fill = L.length + 1 := by
    have := T.cnt
    unfold SetTable.fill
    rw [T.nodm]
    rw [List.length_map] at this
    show t1.place.toList.length + 0 = _
    omega
  cases hf : t1.tooFull with
  | false =>
    have full : ¬ ((L.length + 1) * 5 ≥ t1.mask * 3) := by
      unfold SetTable.tooFull at hf
      rw [fill] at hf
      exact of_decide_eq_false hf
    first
      | refine wp_if_neg (by simp [hf]) ?_
      | (refine wpAny_bind ?_; refine wp_if_neg (by simp [hf]) ?_; refine wpAny_pure ?_)
    exact wpAny_pure (q true h1 L1 es1 (ep + 1) t1 same ⟨⟨_, ho1, hex, rfl⟩, er, T, nd, tu, f1, f3, by rw [ln]; omega, by rw [f2]; exact R.ms⟩ (.inr ⟨kn, pm⟩))
  | true =>
    have full : (L.length + 1) * 5 ≥ t1.mask * 3 := by
      unfold SetTable.tooFull at hf
      rw [fill] at hf
      exact of_decide_eq_true hf
    first
      | (refine wpAny_bind ?_; refine wp_if_pos (by simp [hf]) ?_)
      | (refine wp_if_pos (by simp [hf]) ?_; refine wpAny_bind ?_)
    rw [sz]
    have go : ∀ M, SetTable.sizeAbove (SetTable.grown (L.length + 1)) = M + 1 → MaskG M → (M = 7 ∨ M = 31 ∨ M = 127 ∨ M = 511) → (L.length + 1) * 5 < M * 3 → L.length + 1 ≤ t1.mask →
        wpAny (model P w) A (setRelay a (SetTable.grown (L.length + 1))) (fun _ s' => wpAny (model P w) A (pure true) Q E s') E { s with heap := h1 } := fun M m1 m2 m3 m4 m5 =>
      relayG (s := { s with heap := h1 }) ho1 hex rfl er T nd tu f1 f3 (by rw [ln]; exact m5) m1 m2 m3 (by rw [ln]; exact m4) fun h2 L2 es2 ep2 t2 b1 b2 b3 => wpAny_pure (q true h2 L2 es2 ep2 t2 (same.trans b1) b2 (.inr ⟨kn, b3.trans pm⟩))
    have cs : (t1.mask = 7 ∧ L.length = 4) ∨ (t1.mask = 31 ∧ L.length = 18) ∨ (t1.mask = 127 ∧ L.length = 76) := by
      rw [← f2] at rm
      have := R.ms
      rw [← f2] at this
      omega
    rcases cs with ⟨c1, c2⟩ | ⟨c1, c2⟩ | ⟨c1, c2⟩
    · exact go 31 (by rw [c2]; exact size_20) (maskG_of (.inr (.inl rfl))) (by omega) (by omega) (by omega)
    · exact go 127 (by rw [c2]; exact size_76) (maskG_of (.inr (.inr rfl))) (by omega) (by omega) (by omega)
    · exact go 511 (by rw [c2]; exact size_308) maskG511 (by omega) (by omega) (by omega)
end
end Sw

/-! set(xs) of a list of tuples, len and sorted of it -/
namespace Sw
open PySem PySem.Spec PyProof.Rows L2
/-- a set without elements, as set() makes it -/
abbrev set0 (w : World) : Obj := { cls := .type "set", dict := none, data := .set #[] 0 (.fresh 0 0 (!w.params.followText "set-order")) }
section
variable {P : Program} {w : World} {A : Around} {E : Value → Shared → Prop} {s : Shared}
theorem SG.on {h h' : Heap} {a : Addr} {L : TL2} {es : Array (Int × Value)} {ep : Nat} {t : SetTable} (R : SG P w h a L es ep t) (g : ∀ o, h.get? a = some o → h'.get? a = some o) (u : ∀ p ∈ L, IsT P w h' p.2 p.1) : SG P w h' a L es ep t := by
  obtain ⟨o, e, z⟩ := R.ob
  exact { R with ob := ⟨o, g o e, z⟩, tu := u }
theorem SG.new {h : Heap} {a : Addr} (e : h.get? a = some (set0 w)) : SG P w h a [] #[] 0 (.fresh 0 0 (!w.params.followText "set-order")) where
  ob := ⟨_, e, ⟨rfl, rfl, rfl⟩, rfl⟩
  rw_ := rfl
  tb := ⟨.nil, rfl, rfl, maskG_of (.inl rfl), by simp [SetTable.fresh], by simp⟩
  nd := .nil
  tu := by simp
  pl := rfl
  ld := by
    cases q : w.params.followText "set-order" with
    | true => exact .inl rfl
    | false => exact .inr rfl
  rm := show 0 * 5 < 7 * 3 by decide
  ms := .inl rfl
theorem loopG {I : Addr} {fp wr : List Addr} {G : Array GenState → Array GenState → Prop} {n : Nat} {Pv : Nat → Value → Prop} {St : Nat → Shared → Prop} {R : Result → Shared → Prop} (W : WalksS P w A.in1 I fp wr G n Pv St) (S : Addr) (hS : S ∉ fp) (ks : TL2) (hn : n = ks.length) (few : ks.length ≤ 300)
    (val : ∀ i v, Pv i v → ∃ p, ks[i]? = some p ∧ v = .ref p.1) (g : Heap) (hk : ∀ p ∈ ks, IsT P w g p.2 p.1) (gS : g.get? S = none) (gw : ∀ b ∈ wr, g.get? b = none) (hu : A.in1.units < cLine) :
    ∀ (m i : Nat) (s : Shared) (L : TL2) (es : Array (Int × Value)) (ep : Nat) (t : SetTable), i + m = n → St i s → (∀ b o, g.get? b = some o → s.heap.get? b = some o) → SG P w s.heap S L es ep t → Got ks i L →
      (∀ s' L es ep t, Moved (S :: wr) G s s' → SG P w s'.heap S L es ep t → Got ks n L → (∀ b o, g.get? b = some o → s'.heap.get? b = some o) → R (.ok (.ret .none)) s') →
      codeAny (model P w) A (.builtin "set.update.loop" ⟨[.ref S, .ref I], []⟩) R s := by
  have nw : S ∉ wr := fun z => hS (W.sub S z)
  have up : ∀ {s s' : Shared}, Moved wr G s s' → Moved (S :: wr) G s s' := fun m => m.mono fun b hb => List.mem_cons_of_mem S hb
  have kept : ∀ {s s' : Shared}, Moved wr G s s' → (∀ b o, g.get? b = some o → s.heap.get? b = some o) → ∀ b o, g.get? b = some o → s'.heap.get? b = some o := fun m z b o e =>
    m.heap b o (fun hb => by have := gw b hb; rw [e] at this; cases this) (z b o e)
  have still : ∀ {s s' : Shared} {i : Nat} {L : TL2} {es : Array (Int × Value)} {ep : Nat} {t : SetTable}, Moved wr G s s' → (∀ b o, g.get? b = some o → s'.heap.get? b = some o) → Got ks i L → SG P w s.heap S L es ep t → SG P w s'.heap S L es ep t := fun m z got x =>
    x.on (fun o e => m.heap S o nw e) fun p hp => isT_keep (hk p (List.mem_of_mem_take (got.sub p hp))) z
  intro m
  induction m with
  | zero =>
    intro i s L es ep t him st kp x got q
    have him : i = n := him
    subst him
    refine codeAny_builtin F.entry_set_update_loop ?_
    rw [Around.under_plainId F.plain_set_update_loop _]
    show wpAny (model P w) A.in1 (pyNext (.ref I) >>= _) _ _ s
    refine wpAny_bind (W.done s _ _ st fun s' mv => ?_)
    have z := kept mv kp
    exact wpAny_pure (q s' L es ep t (up mv) (still mv z got x) got z)
  | succ m ih =>
    intro i s L es ep t him st kp x got q
    refine codeAny_builtin F.entry_set_update_loop ?_
    rw [Around.under_plainId F.plain_set_update_loop _]
    show wpAny (model P w) A.in1 (pyNext (.ref I) >>= _) _ _ s
    refine wpAny_bind (W.item i s _ _ (by omega) st fun v s' pv st' mv => ?_)
    obtain ⟨p, hp, rfl⟩ := val i v pv
    have z := kept mv kp
    have x' := still mv z got x
    have hx := isT_keep (hk p (List.mem_of_getElem? hp)) z
    have gl := got.len
    show wpAny (model P w) A.in1 (holding [Value.ref p.1] (setAdd S (.ref p.1)) >>= _) _ _ s'
    refine wpAny_bind (wpAny_holding ?_)
    unfold setAdd
    refine wpAny_holding (wpAny_bind (wpAny_pyHash_tuple hu hx ?_))
    have lt : i < ks.length := (List.getElem?_eq_some_iff.mp hp).1
    refine SG.add (s := { s' with toks := s'.toks + (p.2.length + 1) }) x' hx hu (by omega) fun b h' L' es' ep' t' sb x2 cs => ?_
    have got' : Got ks (i + 1) L' := by
      rcases cs with ⟨c1, c2⟩ | ⟨c1, c2⟩
      · rw [c2]
        exact got.same hp c1
      · exact got.more hp c2
    have neS : ∀ {b : Addr} {o : Obj}, g.get? b = some o → b ≠ S := fun e y => by rw [y, gS] at e; cases e
    have st2 : St (i + 1) { s' with heap := h', toks := s'.toks + (p.2.length + 1) } := W.frame _ s' _ _ st' (Nat.le_add_right _ _) fun b hb o e => (sb.2 b fun y => hS (y ▸ hb)).trans e
    refine wpAny_pure ⟨plainId_quiet F.plain_set_update_loop _, ih (i + 1) _ L' es' ep' t' (by omega) st2 (fun b o e => (sb.2 b (neS e)).trans (z b o e)) x2 got' fun s3 L3 es3 ep3 t3 mv3 x3 got3 z3 => ?_⟩
    exact q s3 L3 es3 ep3 t3 (Moved.trans W.gtrans ((up mv).then_heap (Nat.le_add_right _ _) fun b o hb e => (sb.2 b fun y => hb (y ▸ List.mem_cons_self)).trans e) mv3) x3 got3 z3
set_option maxHeartbeats 8000000 in
theorem call_setG {l : Addr} {items : Array Value} (ks : TL2) {Q : Value → Shared → Prop} (hh : A.handled = none) (hl : s.heap.IsList l items) (hit : items.toList = ks.map fun p => Value.ref p.1) (hk : ∀ p ∈ ks, IsT P w s.heap p.2 p.1) (few : ks.length ≤ 300) (hu : A.units + 3 < cLine)
    (q : ∀ (h' : Heap) (tk : Nat) L es ep t, SG P w h' s.heap.objs.size L es ep t → Got ks ks.length L → (∀ b o, s.heap.get? b = some o → h'.get? b = some o) → Q (.ref s.heap.objs.size) { s with heap := h', toks := tk }) : wpAny (model P w) A (call (.type "set") [.ref l]) Q E s := by
  have lenI : items.size = ks.length := by
    have := congrArg List.length hit
    simpa using this
  obtain ⟨mc, mt, mro0⟩ := F.called_set.mro
  have made0 := F.called_set.made
  have sub0 := F.called_set.sub
  refine wpAny_call (codeAny_of_tree ?_)
  show wpAny (model P w) _ (callAny (.type "set") _) _ _ s
  refine wpAny_pure ⟨Code.quiet_builtin _ (by decide +kernel), codeAny_builtin F.entry_type_call ?_⟩
  rw [Around.under_plain (weight_type_call_type "set" [.ref l] []) rfl]
  have nt0 := F.called_set.notType
  have cc0 := F.called_set.canCreate
  have tc0 := F.typeCall_set_1 (.ref l)
  repeat (any_goals (first | assumption | wp_step))
  refine codeAny_mono (code_set_led1 (.ref l) (E := E) (Q₁ := fun v s1 => v = .ref s.heap.objs.size ∧ s1 = { s with heap := s.heap.push (set0 w) }) ⟨rfl, rfl⟩) fun r s1 hr => ?_
  match r, hr with
  | .error e, hr => exact hr
  | .ok .next, hr => exact hr.elim
  | .ok .brk, hr => exact hr.elim
  | .ok .cont, hr => exact hr.elim
  | .ok (.ret v), hr =>
    obtain ⟨e1, e2⟩ := hr
    subst e1 e2
    have atS : (s.heap.push (set0 w)).get? s.heap.objs.size = some (set0 w) := Heap.get?_push_size _ rfl
    have tyS : Shared.TypeIs { s with heap := s.heap.push (set0 w) } (.ref s.heap.objs.size) "set" := ⟨_, atS, rfl⟩
    have il0 := F.called_set.init.lookup
    have ib0 := F.called_set.init.bind (.ref s.heap.objs.size)
    repeat (any_goals (first | assumption | wp_step))
    refine codeAny_mono (codeAny_call_builtin (R := wants (fun v s2 => v = .none ∧ ∃ h' tk L es ep t, s2 = { s with heap := h', toks := tk } ∧ SG P w h' s.heap.objs.size L es ep t ∧ Got ks ks.length L ∧ ∀ b o, s.heap.get? b = some o → h'.get? b = some o) E)
      F.called_set.init.plain F.entry_set_init (check_set_init_1 tyS ?_)) fun r2 s2 hr2 => ?_
    · obtain ⟨⟨lc, ld, lt, ls⟩, lg, lcls, ln, ldat⟩ := hl
      dsimp only at lcls ldat
      subst lcls ldat
      have lg1 : (s.heap.push (set0 w)).get? l = some { cls := .type "list", dict := ld, data := .seq items ln, slots := ls } := Heap.get?_push_of_some _ lg
      have sl0 := F.sub_list_set
      have sf0 := F.sub_list_frozenset
      have nd0 : (Value.type "list" == Value.type "dict") = false := by decide
      have isl : (s.heap.push (set0 w)).IsList l items := ⟨_, lg1, rfl, ln, rfl⟩
      unfold Builtin.«set.__init__» noKeywords Builtin.Frozenset.updateFrom
      generalize hpi : pyIter = pi0
      wp_walk
      subst hpi
      refine wpAny_pyIter_list isl (wpAny_bind (wpAny_runValue ?_))
      have lS : l < s.heap.objs.size := Heap.lt_size lg
      have calm : A.in1.in1.in1.handled = none := by simp [hh]
      have szS : (s.heap.push (set0 w)).objs.size = s.heap.objs.size + 1 := Heap.size_push ..
      have out : ∀ b, s.heap.objs.size ≤ b → s.heap.get? b = none := fun b hb => Heap.get?_none_of_le hb
      refine loopG ((Walks.list calm _ l (by rw [szS]; exact Nat.ne_of_lt (Nat.lt_succ_of_lt lS)) items).toS) s.heap.objs.size (fun hm => by
        rw [szS] at hm
        rcases List.mem_cons.mp hm with e | e
        · exact Nat.ne_of_lt (Nat.lt_succ_self _) e
        · exact Nat.ne_of_gt lS (List.mem_singleton.mp e)) ks lenI few (fun i v hv => ?_) s.heap hk (out _ (Nat.le_refl _)) (fun b hb => out b (by
        rw [List.mem_singleton.mp hb, szS]
        exact Nat.le_succ _)) hu items.size 0 _ [] #[] 0 _ (Nat.zero_add _) ⟨⟨_, Heap.get?_push_size _ rfl, rfl, rfl⟩, isl.push _⟩ (fun b o e => Heap.get?_push_of_some _ (Heap.get?_push_of_some _ e)) (.new (Heap.get?_push_of_some _ atS)) (.zero ks) fun s' L es ep t mv x got z => ?_
      · have hv : items[i]? = some v := hv
        rw [← Array.getElem?_toList, hit, List.getElem?_map] at hv
        cases e : ks[i]? with
        | none => rw [e] at hv; cases hv
        | some p => rw [e] at hv; exact ⟨p, rfl, (Option.some.inj hv).symm⟩
      · obtain ⟨h', g2, d2, tk, o2⟩ := s'
        have eg : g2 = s.gens := mv.gens
        have ed : d2 = s.drawn := mv.drawn
        have eo : o2 = s.os := mv.os
        subst eg ed eo
        rw [lenI] at got
        exact wpAny_pure (wpAny_pure ⟨rfl, h', tk, L, es, ep, t, rfl, x, got, z⟩)
    · match r2, hr2 with
      | .error e, hr2 => exact hr2
      | .ok .next, hr2 => exact hr2.elim
      | .ok .brk, hr2 => exact hr2.elim
      | .ok .cont, hr2 => exact hr2.elim
      | .ok (.ret v), hr2 =>
        obtain ⟨rfl, h', tk, L, es, ep, t, rfl, x, got, z⟩ := hr2
        repeat (any_goals (first | assumption | wp_step))
        exact q _ _ _ _ _ _ x got z
end
end Sw

/-! chains of comparisons, truth values compared -/
namespace Sw
open PySem PySem.Spec PyProof.Rows L2
section
variable {X : Cx} {env : En}
theorem cmp_run {pins : List (Addr × Obj)} {s : Shared} {σ : L2.St} {H : Hp} {op : CmpOp} {x y : PyData} {z : Bool} {a b : V} {v u : Value} (C : Cmp X op x y z) (I : Inv X pins σ H s) (ra : RelV a v) (rb : RelV b u) (da : Rp X.K H a x) (db : Rp X.K H b y) :
    wpAny (model X.prog X.w) X.A (compareOp op v u) (fun d s' => ∃ H', Inv X pins σ H' s' ∧ Same H H' ∧ d = .bool z) X.xe s := by
  obtain ⟨r, ho, hd⟩ := C
  refine thn (ho pins s σ H a b v u (fun w H' => Same H H' ∧ Rp X.K H' w (.bool z)) I ra rb (hd H a b _ da db fun w H' s1 d1 => ⟨s1, d1⟩)) fun d s1 ⟨w, H1, I1, r1, s2, d2⟩ => ?_
  cases d2
  exact ⟨H1, I1, s2, r1⟩
/-- what stands behind the first operand, whose worth is y -/
inductive Ch (X : Cx) (env : En) : PyData → List CmpOp → List Expr → Bool → Prop
  | last {y z : PyData} {op : CmpOp} {c : Expr} {k : Bool} : Ev X env c z → Cmp X op y z k → Ch X env y [op] [c] k
  | more {y z : PyData} {op op' : CmpOp} {ops : List CmpOp} {c c' : Expr} {cs : List Expr} {k k' : Bool} : Ev X env c z → Cmp X op y z k → Ch X env z (op' :: ops) (c' :: cs) k' → Ch X env y (op :: op' :: ops) (c :: c' :: cs) (k && k')
theorem Ch.val {y : PyData} {ops : List CmpOp} {es : List Expr} {k : Bool} (h : Ch X env y ops es k) : ∀ {pos : Pos} {pins : List (Addr × Obj)} {s : Shared} {σ : L2.St} {H : Hp} {a : V} {v : Value}, Inv X pins σ H s → EnvE X.K H σ env → RelV a v → Rp X.K H a y →
    wpAny (model X.prog X.w) X.A (compareChain pos v ops (evalEach es X.env)) (fun d s' => ∃ H', Inv X pins σ H' s' ∧ Same H H' ∧ d = .bool k) X.xe s := by
  induction h with
  | last hc hr =>
    intro pos pins s σ H a v I hE ra da
    refine chain_last (thn (hc.run pins s σ H (fun w H' => Same H H' ∧ Rp X.K H' w _) I ⟨hE, fun w H' s1 d1 => ⟨s1, d1⟩⟩) fun u s1 ⟨w, H1, I1, r1, sm, d1⟩ => ?_)
    exact thn (cmp_run hr I1 ra r1 (da.mono sm) d1) fun d s2 ⟨H2, I2, sm2, e⟩ => ⟨H2, I2, sm.trans sm2, e⟩
  | @more y z op op' ops c c' cs k k' hc hr ht ih =>
    intro pos pins s σ H a v I hE ra da
    refine chain_link (thn (hc.run pins s σ H (fun w H' => Same H H' ∧ Rp X.K H' w _) I ⟨hE, fun w H' s1 d1 => ⟨s1, d1⟩⟩) fun u s1 ⟨w, H1, I1, r1, sm, d1⟩ => ?_)
    refine thn (cmp_run hr I1 ra r1 (da.mono sm) d1) fun d s2 ⟨H2, I2, sm2, e⟩ => ?_
    subst e
    refine wpAny_truthy_bool ?_
    cases k with
    | true => exact ite_tt (thn (ih I2 (hE.mono (sm.trans sm2)) r1 (d1.mono sm2)) fun d s3 ⟨H3, I3, sm3, e⟩ => ⟨H3, I3, sm.trans (sm2.trans sm3), by rw [e]; rfl⟩)
    | false => exact ite_ff ⟨H2, I2, sm.trans sm2, rfl⟩
theorem Ch.test {y : PyData} {ops : List CmpOp} {es : List Expr} {k : Bool} (h : Ch X env y ops es k) : ∀ {pos : Pos} {pins : List (Addr × Obj)} {s : Shared} {σ : L2.St} {H : Hp} {a : V} {v : Value}, Inv X pins σ H s → EnvE X.K H σ env → RelV a v → Rp X.K H a y →
    wpAny (model X.prog X.w) X.A (testChain pos v ops (evalEach es X.env)) (fun d s' => ∃ H', Inv X pins σ H' s' ∧ Same H H' ∧ d = k) X.xe s := by
  induction h with
  | last hc hr =>
    intro pos pins s σ H a v I hE ra da
    refine test_last (thn (hc.run pins s σ H (fun w H' => Same H H' ∧ Rp X.K H' w _) I ⟨hE, fun w H' s1 d1 => ⟨s1, d1⟩⟩) fun u s1 ⟨w, H1, I1, r1, sm, d1⟩ => ?_)
    refine thn (cmp_run hr I1 ra r1 (da.mono sm) d1) fun d s2 ⟨H2, I2, sm2, e⟩ => ?_
    subst e
    exact wpAny_truthy_bool ⟨H2, I2, sm.trans sm2, rfl⟩
  | @more y z op op' ops c c' cs k k' hc hr ht ih =>
    intro pos pins s σ H a v I hE ra da
    refine test_link (thn (hc.run pins s σ H (fun w H' => Same H H' ∧ Rp X.K H' w _) I ⟨hE, fun w H' s1 d1 => ⟨s1, d1⟩⟩) fun u s1 ⟨w, H1, I1, r1, sm, d1⟩ => ?_)
    refine thn (cmp_run hr I1 ra r1 (da.mono sm) d1) fun d s2 ⟨H2, I2, sm2, e⟩ => ?_
    subst e
    refine wpAny_truthy_bool ?_
    cases k with
    | true => exact ite_tt (thn (ih I2 (hE.mono (sm.trans sm2)) r1 (d1.mono sm2)) fun d s3 ⟨H3, I3, sm3, e⟩ => ⟨H3, I3, sm.trans (sm2.trans sm3), by rw [e]; rfl⟩)
    | false => exact ite_ff ⟨H2, I2, sm.trans sm2, rfl⟩
theorem ev_chain {a b c : Expr} {op op' : CmpOp} {ops : List CmpOp} {cs : List Expr} {x : PyData} {k : Bool} {pos : Pos} (ha : Ev X env a x) (h : Ch X env x (op :: op' :: ops) (b :: c :: cs) k) (hm : lastMarks (op :: op' :: ops) (b :: c :: cs) = false := by with_unfolding_all rfl) : Ev X env (.Compare a (op :: op' :: ops) (b :: c :: cs) pos) (.bool k) :=
  ⟨fun pins s σ H Q I ⟨hE, q⟩ => Compare_chain (thn (ha.run pins s σ H (fun w H' => Same H H' ∧ Rp X.K H' w x) I ⟨hE, fun w H' s1 d1 => ⟨s1, d1⟩⟩) fun u s1 ⟨w, H1, I1, r1, sm, d1⟩ => thn (h.val I1 (hE.mono sm) r1 d1) fun d s2 ⟨H2, I2, sm2, e⟩ => ⟨.bl k, H2, I2, e, q _ H2 (sm.trans sm2) (.bl k)⟩) hm⟩
theorem et_chain {a b c : Expr} {op op' : CmpOp} {ops : List CmpOp} {cs : List Expr} {x : PyData} {k : Bool} {pos : Pos} (ha : Ev X env a x) (h : Ch X env x (op :: op' :: ops) (b :: c :: cs) k) (hm : lastMarks (op :: op' :: ops) (b :: c :: cs) = false := by with_unfolding_all rfl) : EvT X env (.Compare a (op :: op' :: ops) (b :: c :: cs) pos) k :=
  ⟨fun pins s σ H Q I ⟨hE, q⟩ => isTrue_chain (thn (ha.run pins s σ H (fun w H' => Same H H' ∧ Rp X.K H' w x) I ⟨hE, fun w H' s1 d1 => ⟨s1, d1⟩⟩) fun u s1 ⟨w, H1, I1, r1, sm, d1⟩ => thn (h.test I1 (hE.mono sm) r1 d1) fun d s2 ⟨H2, I2, sm2, e⟩ => ⟨H2, I2, by rw [e]; exact q H2 (sm.trans sm2)⟩) hm⟩
theorem cmp_eqB {i j : Bool} : Cmp X .Eq (.bool i) (.bool j) (decide (i = j)) := ⟨_, op_eq, fun H v u Q d1 d2 q => by
  cases d1
  cases d2
  refine ⟨rfl, ?_⟩
  have e : decide (V.bl i = V.bl j) = decide (i = j) := by simp
  rw [e]
  exact q _ H (Same.refl H) (.bl _)⟩
theorem cmp_neB {i j : Bool} : Cmp X .NotEq (.bool i) (.bool j) (!decide (i = j)) := ⟨_, op_ne, fun H v u Q d1 d2 q => by
  cases d1
  cases d2
  refine ⟨rfl, ?_⟩
  have e : decide (V.bl i = V.bl j) = decide (i = j) := by simp
  rw [e]
  exact q _ H (Same.refl H) (.bl _)⟩
end
end Sw

/-! own lists' items set, list(x), new instances beside own lists -/
namespace Sw
open PySem PySem.Spec PyProof.Rows L2
section
variable {X : Cx} {H0 : Hp} {env : En} {D : Ends} {rest : List Stmt} {e idx : Expr} {pos px p pos' : Pos} {x : Str} {i : Nat} {C : Addr} {ds : List PyData} {d : PyData}
/-- x[k] = e, x an own list -/
theorem run_lset {k : Int} {j : Nat} (hN : nmIx x X.N 0 = some i) (hv : Vis X.env.scope x) (hi : env[i]? = some (some (.l ds))) (he : Ev X env e d) (hf : fz d = true) (hx : Ev X env idx (.int k)) (hj : ixN ds.length k = some j) (kk : Run X H0 (env.set i (some (.l (ds.set j d)))) rest D)
    (hd : (x == ("__debug__" : Str)) = false := by decide) (hcd : (x == ("__classdict__" : Str)) = false := by decide)
    (ha : ∀ v, assign (.Subscript (.Name x px) idx pos') X.env v = (do
      let ov ← holding [v] (eval (.Name x px) X.env)
      let iv ← holding [v, ov] (eval idx X.env)
      standAt pos'
      holding [v, ov, iv] (setItem ov iv v)
      release [v, ov, iv] []) := by intro _; rfl)
    (hs : swapsWithSole [.Subscript (.Name x px) idx pos'] e pos.line X.env = pure false := by rfl) (hw : swappedStores [.Subscript (.Name x px) idx pos'] e X.env = pure none := by rfl)
    (h1 : (assignEach [.Subscript (.Name x px) idx pos'] X.env).map (·.2) = [assign (.Subscript (.Name x px) idx pos') X.env] := by rfl) (no : noObj env = true := by rfl) :
    Run X H0 env (.Assign [.Subscript (.Name x px) idx pos'] e pos :: rest) D :=
  run_cons (ps_asg he (pg_sub (pe_var (nm0 hN) hv hd hcd) hx set_list ha) hs hw h1) fun B σ H S => ⟨S.e, fun v H1 s1 d1 => by
    obtain ⟨u, hu, l, vs, rfl, hB, hl, hd, hfs⟩ := S.sl i _ hi
    refine ⟨_, hu, S.e.mono s1, fun w H2 s2 d2 => ?_⟩
    cases d2
    have s12 := s1.trans s2
    have S1 := S.grow s12
    have hl2 := s12 _ _ hl
    refine ⟨l, vs, k, j, rfl, rfl, hl2, by rw [RpAll.len hd]; exact hj, kk B σ _ ?_⟩
    have kp : Keep H2 (upd H2 l (.lst (vs.set j v))) := keep_upd hl2 (fun xs z => by cases z)
    refine S1.chg hi rfl hu hB hl2 (fun xs z => by cases z) ⟨l, _, rfl, hB, upd_same, RpAll.set j (dkeeps kp _ _ hfs (hd.mono s12)) (dkeep kp _ _ hf (d1.mono s2)), ?_⟩ no
    refine fzs_of fun y hy => ?_
    rcases List.mem_or_eq_of_mem_set hy with z | z
    · exact fzs_mem hfs z
    · rw [z]; exact hf⟩
/-- list(x) -/
theorem evl_list (he : Ev X env e (.list ds)) (hg : Gl X "list") (hm : X.mg "list" = none) (hse : starEach [e] X.env = (false, eval e X.env) :: starEach [] X.env := by rfl) (hpl : (backTo pos (starEach [] X.env)).any (·.1) = false := by rfl) : EvL X env (.Call (.Name "list" p) [e] [] pos) ds :=
  wkE (pe_callTy call_list_of hg hm b_list (ea_cons he ea_nil hse) (by decide) (by decide) hse hpl) fun σ H Q ⟨hE, q⟩ => ⟨hE, fun vs H1 s1 d1 => by
    cases d1 with
    | cons a b =>
      cases b
      cases a with
      | lst hs ha => exact ⟨_, _, rfl, .inl hs, fun l hl => q l _ _ (s1.trans (same_new hl)) (s1.free hl) upd_same (ha.mono (same_new hl))⟩⟩
/-- x = a new instance, which nobody changes -/
theorem run_setOD (hi : nmIx x X.N 0 = some i) (hN : X.N.Nodup) (hx : Loc X.env.scope x) (he : EvO X env e C ds) (hfz : fzs ds = true) (k : Run X H0 (env.set i (some (.d (obP C ds)))) rest D)
    (hs : swapsWith e (some (.Name x pos')) pos.line X.env = pure false := by rfl) (hf' : X.fn x = true ∨ X.env.scope.names.lookup x = some .local := by first | exact .inl rfl | exact .inr rfl) :
    Run X H0 env (.Assign [.Name x pos'] e pos :: rest) D := run_cons (ps_set hN (nm0 hi) hx he hs hf') fun B σ H S => ⟨S.e, fun a dx l vs H1 s1 ha hl h1 h2 h3 => by
  have a1 : hide B H H1 a = some (.ins C dx [("places", .ref l)]) := by
    rw [hide_at (by rw [ha]; exact id)]
    exact h1
  have l1 : hide B H H1 l = some (.lst vs) := by
    rw [hide_at (by rw [hl]; exact id)]
    exact h2
  exact k _ _ _ ((S.hide s1).put (s := .d (obP C ds)) (.inl (rp_obP a1 l1 (dkeeps (hide_keep s1) _ _ hfz h3))) fun z => by cases z)⟩
end
end Sw

/-! dicts handed over; loops over them; a written dict of one pair; while -/
namespace Sw
open PySem PySem.Spec PyProof.Rows L2
/-! ### {key: value}, the key a tuple -/
section
variable {X : Cx}
theorem pe_one_tup {k v : Expr} {pos : Pos} {tk tv : TE} (hu : X.A.units + 1 < cLine) (hk : PE X k tk) (hv : PE X v tv) :
    PE X (.Dict [some k] [v] pos) (fun σ H Q => ∀ p, H p = none → tk σ (upd H p (.dT [])) fun x H1 => tv σ H1 fun y H2 => ∃ (b : Addr) (ks : List Key), x = .ref b ∧ H2 b = some (.tup (ks.map kV)) ∧ H2 p = some (.dT []) ∧ Q (.ref p) (upd H2 p (.dT [(ks, y)]))) := by
  refine ⟨fun pins s σ H Q I q => ?_⟩
  have hn := I.hok.fresh (Nat.le_refl s.heap.objs.size)
  have I1 := I.laid (a := s.heap.objs.size) (o := .dT []) (h' := s.heap.push { cls := .type "dict", data := .dict #[] }) (t' := s.toks) (fun _ _ q => Heap.get?_push_of_some _ q) (Nat.le_refl _) (dt_empty s.heap I.big)
  refine wpAny_Dict_any rfl rfl (by simp) (by simp) (pairTrees_cons_walk (thn (hk.run pins _ σ _ _ I1 (q _ hn)) fun u s1 ⟨x, H1, I1, rx, q1⟩ => thn (hv.run pins s1 σ H1 _ I1 q1) fun w2 s2 ⟨y, H2, I2, ry, b, ks, ex, eb, ep, q2⟩ => pairTrees_nil_walk ?_))
  subst ex
  cases (show u = Value.ref b from rx)
  obtain ⟨z, hd, xs, rel, dd⟩ := dt_of I2.hok ep
  have hx : xs = [] := by cases rel; rfl
  subst hx
  unfold storeAll
  rw [List.forIn_cons]
  refine wpAny_bind (wpAny_bind (wpAny_dictSet_heap (hsz := Nat.zero_le _) (by exact Nat.lt_of_succ_lt hu) (key_of I2.hok eb) dd fun h' dd' hs => wpAny_pure ?_))
  show wpAny (model X.prog X.w) X.A (forIn [] PUnit.unit _) _ _ _
  rw [List.forIn_nil]
  refine wpAny_pure ⟨.ref s.heap.objs.size, _, ?_, rfl, q2⟩
  obtain ⟨q, es, epp, hq, h2, h3, h4, _, h5⟩ := dd'
  refine d_write I2 (by rw [ep]; exact True.intro) hs ⟨q, hq⟩ ⟨by show 1 ≤ sizeLine; rw [sizeLine_eq]; decide, hd, _, (Paired.cons ⟨rfl, ?_, ry⟩ .nil), q, es, epp, hq, h2, h3, h4, h5⟩
  show upd H2 s.heap.objs.size _ b = _
  rw [upd_ne (ne_of eb ep (fun z => nomatch z))]
  exact eb
end
section
variable {X : Cx} {H0 : Hp} {env : En} {D : Ends} {rest body : List Stmt} {e e2 : Expr} {es : List Expr} {pos px pos' pos2 p : Pos} {x z : Str} {i j : Nat} {kvs : List (List Key × PyData)} {k : List Key} {d d2 : PyData}
theorem run_setM1 (hr : Room j X.A) (hi : nmIx x X.N 0 = some i) (hN : X.N.Nodup) (hx : Loc X.env.scope x) (hk : Ev X env e (kD k)) (hv : Ev X env e2 d) (hf : fz d = true) (kk : Run X H0 (env.set i (some (.m [(k, d)]))) rest D)
    (hs : swapsWith (.Dict [some e] [e2] pos2) (some (.Name x pos')) pos.line X.env = pure false := by rfl) (hf' : X.fn x = true ∨ X.env.scope.names.lookup x = some .local := by first | exact .inl rfl | exact .inr rfl) :
    Run X H0 env (.Assign [.Name x pos'] (.Dict [some e] [e2] pos2) pos :: rest) D :=
  run_cons (ps_set hN (nm0 hi) hx (pe_one_tup (hu_of hr) hk hv) hs hf') fun B σ H S p hp => by
    have g := same_new (o := HO.dT []) hp
    refine ⟨S.e.mono g, fun y H1 s1 d1 => ⟨S.e.mono (g.trans s1), fun u H2 s2 d2 => ?_⟩⟩
    obtain ⟨b, rfl, hb⟩ := kD_tup d1
    have hp2 : H2 p = some (.dT []) := s2 _ _ (s1 _ _ upd_same)
    refine ⟨b, k, rfl, s2 _ _ hb, hp2, ?_⟩
    have gg : Same H (upd H2 p (.dT [(k, u)])) := fun a o h => by
      rw [upd_ne (ne_of_none h hp)]
      exact s2 _ _ (s1 _ _ (g _ _ h))
    have kp : Keep H2 (upd H2 p (.dT [(k, u)])) := keep_upd hp2 (fun xs z => by cases z)
    exact kk B _ _ ((S.grow gg).put (s := .m [(k, d)]) ⟨p, _, rfl, S.e1.free hp, upd_same, .cons ⟨rfl, dkeep kp _ _ hf d2⟩ .nil, by simp [vfz, fzs, hf]⟩ fun _ j t ne hj ot => own_ne S hp hj ot)
/-! ### len -/
theorem ev_lenM (hg : Gl X "len") (hm : X.mg "len" = none) (hN : nmIx x X.N 0 = some i) (hv : Vis X.env.scope x) (he : env[i]? = some (some (.m kvs)))
    (hb : (x == ("__debug__" : Str)) = false := by decide) (hcd : (x == ("__classdict__" : Str)) = false := by decide)
    (hs : starEach [.Name x px] X.env = (false, eval (.Name x px) X.env) :: starEach [] X.env := by rfl) (hpl : (backTo pos (starEach [] X.env)).any (·.1) = false := by rfl) : Ev X env (.Call (.Name "len" p) [.Name x px] [] pos) (.int (kvs.length : Nat)) :=
  wkE (pe_callB call_len_dT hg hm b_len (pa_cons (pe_var (nm0 hN) hv hb hcd) (ea_nil (env := env)) hs) (by decide) (by decide) hs hpl) fun σ H Q ⟨hE, q⟩ => by
    obtain ⟨v, h1, l, kv, rfl, h3, h4⟩ := hE i _ he
    refine ⟨_, h1, hE, fun us H2 s2 d2 => ?_⟩
    cases d2
    refine ⟨l, kv, rfl, s2 _ _ h3, ?_⟩
    rw [KvD.len h4]
    exact q _ H2 s2 (.int _)
theorem ev_lenG (hg : Gl X "len") (hm : X.mg "len" = none) (hN : nmIx x X.N 0 = some i) (hv : Vis X.env.scope x) (he : env[i]? = some (some (.g (mFix kvs))))
    (hb : (x == ("__debug__" : Str)) = false := by decide) (hcd : (x == ("__classdict__" : Str)) = false := by decide)
    (hs : starEach [.Name x px] X.env = (false, eval (.Name x px) X.env) :: starEach [] X.env := by rfl) (hpl : (backTo pos (starEach [] X.env)).any (·.1) = false := by rfl) : Ev X env (.Call (.Name "len" p) [.Name x px] [] pos) (.int (kvs.length : Nat)) :=
  wkE (pe_callB call_len_dT hg hm b_len (pa_cons (pe_var (nm0 hN) hv hb hcd) (ea_nil (env := env)) hs) (by decide) (by decide) hs hpl) fun σ H Q ⟨hE, q⟩ => by
    obtain ⟨v, h1, l, kv, rfl, h3, h4⟩ := hE i _ he
    refine ⟨_, h1, hE, fun us H2 s2 d2 => ?_⟩
    cases d2
    refine ⟨l, kv, rfl, s2 _ _ h3, ?_⟩
    rw [KvD.len h4]
    exact q _ H2 s2 (.int _)
/-- key not in name, the dict locked -/
theorem et_knotin {l : Addr} {ky : List Key} (hr : Room j X.A) (hN : nmIx z X.N 0 = some i) (hv : Vis X.env.scope z) (he : env[i]? = some (some (.k l kvs))) (hi : Ev X env e (kD ky))
    (hb : (z == ("__debug__" : Str)) = false := by decide) (hcd : (z == ("__classdict__" : Str)) = false := by decide) : EvT X env (.Compare e [.NotIn] [.Name z px] pos) (!(mval kvs ky).isSome) :=
  wkT (pt_cmp (pc_dnotin (hu_of hr) hi (pe_var (nm0 hN) hv hb hcd)) rfl) fun σ H Q ⟨hE, q⟩ => ⟨hE, fun y H4 s4 d4 => by
    obtain ⟨v, h1, kv, rfl, h3, h4⟩ := hE i _ he
    obtain ⟨b, rfl, hb⟩ := kD_tup d4
    refine ⟨_, h1, l, valV kv ky, rfl, .inr ⟨kv, ky, b, same_rd s4 h3, rfl, hb, rfl⟩, !(valV kv ky).isSome, rfl, ?_⟩
    rcases KvD.val h4 ky with ⟨z1, z2⟩ | ⟨v, d', g1, g2, g3⟩
    · rw [z1]
      have := q H4 s4
      rwa [z2] at this
    · rw [g1]
      have := q H4 s4
      rwa [g2] at this⟩
theorem et_kin {l : Addr} {ky : List Key} (hr : Room j X.A) (hN : nmIx z X.N 0 = some i) (hv : Vis X.env.scope z) (he : env[i]? = some (some (.k l kvs))) (hi : Ev X env e (kD ky))
    (hb : (z == ("__debug__" : Str)) = false := by decide) (hcd : (z == ("__classdict__" : Str)) = false := by decide) : EvT X env (.Compare e [.In] [.Name z px] pos) (mval kvs ky).isSome :=
  wkT (pt_cmp (pc_din (hu_of hr) hi (pe_var (nm0 hN) hv hb hcd)) rfl) fun σ H Q ⟨hE, q⟩ => ⟨hE, fun y H4 s4 d4 => by
    obtain ⟨v, h1, kv, rfl, h3, h4⟩ := hE i _ he
    obtain ⟨b, rfl, hb⟩ := kD_tup d4
    refine ⟨_, h1, l, valV kv ky, rfl, .inr ⟨kv, ky, b, same_rd s4 h3, rfl, hb, rfl⟩, (valV kv ky).isSome, rfl, ?_⟩
    rcases KvD.val h4 ky with ⟨z1, z2⟩ | ⟨v, d', g1, g2, g3⟩
    · rw [z1]
      have := q H4 s4
      rwa [z2] at this
    · rw [g1]
      have := q H4 s4
      rwa [g2] at this⟩
/-! ### while -/
theorem run_while {c : Expr} (n : Nat) (E : Nat → En) (hp : PassesOwn (model X.prog X.w) X.A X.env X.xe) (h0 : Le (E 0) env) (ht : ∀ m, m ≤ n → EvT X (E m) c (decide (m < n)))
    (turn : ∀ (m : Nat) (Hl : Hp) (D' : Ends), m < n → D'.nx = NX X Hl (E (m + 1)) → Run X Hl (E m) body D') (done : Run X H0 (E n) rest D) : Run X H0 env (.While c body [] pos :: rest) D := by
  refine run_cons (ps_while hp (tc := fun σ H Q => ∃ m, m ≤ n ∧ tP X.K (E m) (decide (m < n)) σ H Q) ⟨fun pins s σ H Q I ⟨m, hm, q⟩ => (ht m hm).run pins s σ H Q I q⟩ (tR_ok (X := X) (body := body))) fun B σ H S => ?_
  refine ⟨fun q σ' H' => ∃ m B', m ≤ n ∧ q = n - m ∧ StOk X.K H0 B' H' σ' (E m), ⟨n, 0, B, Nat.zero_le _, rfl, S.le h0⟩, ?_⟩
  rintro q σ' H' ⟨m, B', hm, rfl, S'⟩
  refine ⟨m, hm, S'.e, fun H1 s1 => ?_⟩
  have S1 := S'.grow s1
  by_cases hlt : m < n
  · rw [decide_eq_true hlt]
    have S2 : StOk X.K B' B' H1 σ' (E m) := ⟨Same.refl _, S1.e1, S1.len, S1.sl, S1.sep⟩
    refine iteT ⟨NX X B' (E (m + 1)), fun σ5 H5 ⟨B5, S5⟩ => ⟨n - (m + 1), by omega, m + 1, B5, hlt, rfl, ⟨S'.e0.trans S5.e0, S5.e1, S5.len, S5.sl, S5.sep⟩⟩, ?_⟩
    have T := fun DD : Ends => turn m B' { DD with nx := NX X B' (E (m + 1)), ct := NX X B' (E (m + 1)), bk := fun _ _ => False } hlt rfl B' σ' H1 S2
    exact tR_mono (T _) (fun _ _ z => z) (fun _ _ z => z) (fun _ _ z => z.elim) (fun _ _ z => z)
  · rw [decide_eq_false hlt]
    have : m = n := by omega
    subst this
    exact iteF (done B' σ' H1 S1)
end
/-! ### a dict that stands still is walked -/
section
variable {K : PySem.W.Frag} {H0 B H : Hp} {σ : L2.St} {env : En}
def isDT (u : HO) : Prop := (∃ kv, u = .dT kv) ∨ ∃ o kv, u = .frz o (.dT kv)
mutual
theorem rp_swap {l : Addr} {o' : HO} (hB : ∀ u, B l = some u → isDT u) : ∀ {v : V} {d : PyData}, Rp K B v d → Rp K (upd B l o') v d
  | _, _, .non => .non
  | _, _, .bl b => .bl b
  | _, _, .int i => .int i
  | _, _, .str x => .str x
  | _, _, .lst (a := a) hs ha => by
    refine .lst ?_ (rps_swap hB ha)
    have key : ∀ u, B a = some u → (¬ isDT u) → upd B l o' a = some u := fun u h hu => by
      have : a ≠ l := fun z => by
        subst z
        exact hu (hB _ h)
      rw [upd_ne this]
      exact h
    have n1 : ∀ xs, ¬ isDT (.lst xs) := fun xs z => by rcases z with ⟨_, z⟩ | ⟨_, _, z⟩ <;> cases z
    have n2 : ∀ o xs, ¬ isDT (.frz o (.lst xs)) := fun o xs z => by
      rcases z with ⟨_, z⟩ | ⟨_, _, z⟩
      · cases z
      · injection z with _ z
        cases z
    rcases hs with (h | ⟨o', h⟩) | ⟨o', its, n, h, hc, r⟩
    · exact .inl (.inl (key _ h (n1 _)))
    · exact .inl (.inr ⟨o', key _ h (n2 _ _)⟩)
    · exact .inr ⟨o', its, n, h, hc, r⟩
  | _, _, .tup (a := a) hs ha => by
    refine .tup ?_ (rps_swap hB ha)
    have : a ≠ l := fun z => by
      subst z
      rcases hB _ hs with ⟨_, z⟩ | ⟨_, _, z⟩ <;> cases z
    rw [upd_ne this]
    exact hs
  | _, _, .obj (a := a) (dx := dx) hs hk ha => by
    refine .obj (dx := dx) ?_ hk (rps_swap hB ha)
    have : a ≠ l := fun z => by
      subst z
      rcases hB _ hs with ⟨_, z⟩ | ⟨_, _, z⟩ <;> cases z
    rw [upd_ne this]
    exact hs
  | _, _, .emp (a := a) hs => by
    refine .emp ?_
    have : a ≠ l := fun z => by
      subst z
      rcases hB _ hs with ⟨_, z⟩ | ⟨_, _, z⟩ <;> cases z
    rw [upd_ne this]
    exact hs
theorem rps_swap {l : Addr} {o' : HO} (hB : ∀ u, B l = some u → isDT u) : ∀ {v : List V} {d : List PyData}, RpAll K B v d → RpAll K (upd B l o') v d
  | _, _, .nil => .nil
  | _, _, .cons h t => .cons (rp_swap hB h) (rps_swap hB t)
end
/-- the slots but one, as that one's object is replaced -/
theorem StOk.swapG (S : StOk K H0 B H σ env) {i : Nat} {s : SV} {l : Addr} {o o' : HO} (hs : σ[i]? = some (some (.ref l))) (hso : s.own = false) (hBl : B l = some o) (hd : isDT o) (hd' : isDT o') (hp : plainE (env.set i none) = true) (new : SvOk K (upd B l o') (upd H l o') (.ref l) s) (G : Hp) (hG : Same G (upd B l o')) :
    StOk K G (upd B l o') (upd H l o') σ (env.set i (some s)) := by
  have hHl := S.e1 _ _ hBl
  have hdk : ∀ u, B l = some u → isDT u := fun u h => by rw [hBl] at h; cases h; exact hd
  have kp : Keep H (upd H l o') := keep_upd hHl (fun xs z => by subst z; rcases hd with ⟨_, z⟩ | ⟨_, _, z⟩ <;> cases z)
  have oth : ∀ j, j ≠ i → (env.set i none)[j]? = env[j]? := fun j ne => List.getElem?_set_ne (fun z => ne z.symm)
  refine ⟨hG, fun b u h => ?_, by rw [List.length_set]; exact S.len, fun j t hj => ?_, fun j k t u w hj hk oj ok wj wk => ?_⟩
  · by_cases e : b = l
    · subst e
      rw [upd_same] at h ⊢
      exact h
    · rw [upd_ne e] at h ⊢
      exact S.e1 _ _ h
  · rcases set_get hj with ⟨rfl, e⟩ | ⟨ne, e⟩
    · cases e
      exact ⟨_, hs, new⟩
    · obtain ⟨w, h1, h2⟩ := S.sl j t e
      refine ⟨w, h1, ?_⟩
      have e2 := (oth j ne).trans e
      have notl : ∀ p u, H p = some u → ¬ isDT u → p ≠ l := fun p u h hn z => by subst z; rw [hHl] at h; cases h; exact hn hd
      have freel : ∀ p, B p = none → p ≠ l := fun p h z => by subst z; rw [hBl] at h; cases h
      cases t with
      | d x =>
        rcases h2 with h | h
        · exact .inl (rp_swap hdk h)
        · exact .inr ⟨h.1, dkeep kp _ _ h.1 h.2⟩
      | l ds =>
        obtain ⟨p, vs, rfl, h0, h3, h4, h5⟩ := h2
        have np := freel p h0
        exact ⟨p, vs, rfl, by rw [upd_ne np]; exact h0, by rw [upd_ne np]; exact h3, dkeeps kp _ _ h5 h4, h5⟩
      | m es =>
        obtain ⟨p, vs, rfl, h0, h3, h4, h5⟩ := h2
        have np := freel p h0
        exact ⟨p, vs, rfl, by rw [upd_ne np]; exact h0, by rw [upd_ne np]; exact h3, h4.keep kp h5, h5⟩
      | k l' es => exact (plainE_k hp e2).elim
      | g R => exact (plainE_g hp e2).elim
      | o C ds =>
        obtain ⟨a, dx, l2, vs, rfl, h3, h0, h4, h5, h6⟩ := h2
        have np := freel l2 h0
        have na : a ≠ l := fun z => by
          subst z
          rcases hdk _ h3 with ⟨_, z⟩ | ⟨_, _, z⟩ <;> cases z
        exact ⟨a, dx, l2, vs, rfl, by rw [upd_ne na]; exact h3, by rw [upd_ne np]; exact h0, by rw [upd_ne np]; exact h4, dkeeps kp _ _ h6 h5, h6⟩
  · rcases set_get hj with ⟨rfl, e⟩ | ⟨ne, e⟩
    · cases e
      rw [hso] at oj
      cases oj
    · rcases set_get hk with ⟨rfl, e'⟩ | ⟨ne', e'⟩
      · cases e'
        rw [hso] at ok
        cases ok
      · exact S.sep j k t u w e e' oj ok wj wk
end
section
variable {X : Cx} {H0 : Hp} {env : En} {D : Ends} {rest body : List Stmt} {pos px py pz pt p : Pos} {x y z : Str} {i j l0 k : Nat} {kvs : List (List Key × PyData)} {kt : Nat} {u v : Nat → PyData} {e : Expr}
/-- for a, b in d, d a dict that stands still -/
theorem run_forGT (E : Addr → Nat → En) (hi : nmIx z X.N 0 = some i) (hv : Vis X.env.scope z) (he : env[i]? = some (some (.g (mFix kvs)))) (hf : vfz kvs = true) (hpl0 : plainE (env.set i none) = true) (hj : nmIx x X.N 0 = some j) (hl : nmIx y X.N 0 = some l0) (hN : X.N.Nodup) (hx : Loc X.env.scope x) (hy : Loc X.env.scope y) (hp : PassesOwn (model X.prog X.w) X.A X.env X.xe)
    (hE : ∀ l m, (E l m)[i]? = some (some (.k l kvs))) (hk : ∀ m, m < kvs.length → kD (kvs.getD m ([], .none)).1 = .tuple [u m, v m] ∧ fz (u m) = true ∧ fz (v m) = true) (h0 : ∀ l, Le (E l 0) (env.set i (some (.k l kvs))))
    (turn : ∀ (l : Addr) (m : Nat) (Hl : Hp) (D' : Ends), m < kvs.length → D'.nx = NX X Hl (E l (m + 1)) → Run X Hl (((E l m).set j (some (.d (u m)))).set l0 (some (.d (v m)))) body D')
    (hpl : ∀ l, plainE ((E l kvs.length).set i none) = true) (done : ∀ l, Run X H0 ((E l kvs.length).set i (some (.g (mFix kvs)))) rest D) (hc : X.calm = true := by rfl) (hfo : ∀ w, foldedSetIterable (.Name z pz) X.env w = pure w := by intro _; rfl)
    (hb : (z == ("__debug__" : Str)) = false := by decide) (hcd : (z == ("__classdict__" : Str)) = false := by decide)
    (hfx : X.fn x = true ∨ X.env.scope.names.lookup x = some .local := by first | exact .inl rfl | exact .inr rfl) (hfy : X.fn y = true ∨ X.env.scope.names.lookup y = some .local := by first | exact .inl rfl | exact .inr rfl)
    (h2 : (assignEach [.Name x px, .Name y py] X.env).map (·.2) = assign (.Name x px) X.env :: (assignEach [.Name y py] X.env).map (·.2) := by rfl)
    (h3 : (assignEach [.Name y py] X.env).map (·.2) = assign (.Name y py) X.env :: (assignEach [] X.env).map (·.2) := by rfl)
    (hn : (assignEach [.Name x px, .Name y py] X.env).length = 2 := by rfl) (hst : (assignEach [.Name x px, .Name y py] X.env).findIdx? (·.1) = none := by rfl) : Run X H0 env (.For (.Tuple [.Name x px, .Name y py] kt pt) (.Name z pz) body [] pos :: rest) D := by
  refine run_cons (ps_lock (ps_for hp hc (pi_keys (pe_var (nm0 hi) hv hb hcd)) (pg_tup hc (pgs_cons (pg_name hN (nm0 hj) hx hfx) (pgs_cons (pg_name hN (nm0 hl) hy hfy) pgs_nil h3) h2) hn hst) (tR_ok (X := X) (body := body)) hfo)) fun B σ H S => ?_
  obtain ⟨vv, hvv, l, kv, rfl, hBl, hkv⟩ := S.sl i _ he
  have hl1 := S.e1 _ _ hBl
  refine ⟨l, .dT kv, hl1, trivial, fun od => ?_⟩
  have kpB : Keep B (upd B l (.frz od (.dT kv))) := keep_upd hBl (fun xs z => by cases z)
  have kpH : Keep H (upd H l (.frz od (.dT kv))) := keep_upd hl1 (fun xs z => by cases z)
  have S1 := S.swapG (i := i) (s := .k l kvs) (o' := .frz od (.dT kv)) hvv rfl hBl (.inl ⟨_, rfl⟩) (.inr ⟨_, _, rfl⟩) hpl0 ⟨kv, rfl, ⟨od, upd_same⟩, (hkv.mono S.e1).keep kpH hf, hf⟩ _ (Same.refl _)
  have hlen := KvD.len hkv
  refine ⟨_, hvv, l, od, rfl, .inr ⟨kv, upd_same, ?_⟩⟩
  have W := walk_keysT (d := l) (o := od) (kvs := kv)
  rw [hlen] at W
  have hgs := gs_tup2 (K := X.K) (gs_name j) (gs_name l0)
  refine for_it W (fun m σ' H' => ∃ B', Same (upd B l (.frz od (.dT kv))) B' ∧ StOk X.K B' B' H' σ' (E l m) ∧ σ'[i]? = some (some (.ref l))) ⟨_, Same.refl _, ⟨Same.refl _, (S1.le (h0 l)).e1, (S1.le (h0 l)).len, (S1.le (h0 l)).sl, (S1.le (h0 l)).sep⟩, hvv⟩ (fun m σ' H' _ ⟨B', b, S', _⟩ => S'.e1 _ _ (b _ _ upd_same)) ?_ ?_
  · rintro m xx σ' H' H'' hlt ⟨B', b, S', hsi⟩ ⟨rfl, kk, v', q, h4, rfl, h5⟩
    have hkm := hk m hlt
    rw [KvD.at hkv h4] at hkm
    have r : Rp X.K H'' (.ref q) (.tuple [u m, v m]) := by
      rw [← hkm.1]
      exact kD_rp h5
    refine hgs B' B' σ' H'' _ (.tuple [u m, v m]) (E l m) _ S' r (by simp [fz, fzs, hkm.2.1, hkm.2.2]) ⟨_, _, rfl, trivial, trivial⟩ fun σ3 S3 => ?_
    have T := fun DD : Ends => turn l m B' { DD with nx := NX X B' (E l (m + 1)), ct := NX X B' (E l (m + 1)), bk := fun _ _ => False } hlt rfl B' σ3 H'' S3
    have g : ∀ σ5 H5, NX X B' (E l (m + 1)) σ5 H5 → ∃ B', Same (upd B l (.frz od (.dT kv))) B' ∧ StOk X.K B' B' H5 σ5 (E l (m + 1)) ∧ σ5[i]? = some (some (.ref l)) := fun σ5 H5 ⟨B5, S5⟩ => by
      refine ⟨B5, b.trans S5.e0, ⟨Same.refl _, S5.e1, S5.len, S5.sl, S5.sep⟩, ?_⟩
      obtain ⟨w, hw, kv5, rfl, _⟩ := S5.sl i _ (hE l _)
      exact hw
    exact tR_mono (T _) g (fun _ _ z => z) (fun _ _ z => z.elim) g
  · rintro σ' H' ⟨B', b, S', hsi⟩
    have hB' := b _ _ (upd_same (H := B) (a := l) (o := .frz od (.dT kv)))
    refine ⟨S'.e1 _ _ hB', ?_⟩
    have back : Same B (upd B' l (.dT kv)) := fun a o h => by
      by_cases e : a = l
      · subst e
        rw [hBl] at h
        cases h
        exact upd_same
      · rw [upd_ne e]
        refine b _ _ ?_
        rw [upd_ne e]
        exact h
    exact done l _ _ _ (S'.swapG (i := i) (s := .g (mFix kvs)) (o' := .dT kv) hsi rfl hB' (.inr ⟨_, _, rfl⟩) (.inl ⟨_, rfl⟩) (hpl l) ⟨l, kv, rfl, upd_same, hkv.mono back⟩ H0 (S.e0.trans back))
end
/-! ### dicts handed over -/
def tV (K : PySem.W.Frag) (env : En) (s : SV) : TE := fun σ H Q => EnvE K H σ env ∧ ∀ v H', Same H H' → SvE K H' v s → Q v H'
abbrev SvAll (K : PySem.W.Frag) (H : Hp) : List V → List SV → Prop := Paired fun v s => SvE K H v s
def tVs (K : PySem.W.Frag) (env : En) (ss : List SV) : TA := fun σ H Q => EnvE K H σ env ∧ ∀ vs H', Same H H' → SvAll K H' vs ss → Q vs H'
abbrev EvV (X : Cx) (env : En) (e : Expr) (s : SV) : Prop := PE X e (tV X.K env s)
abbrev EvVs (X : Cx) (env : En) (es : List Expr) (ss : List SV) : Prop := PA X es (tVs X.K env ss)
def isDG : SV → Bool
  | .d _ => true
  | .g _ => true
  | _ => false
def spS (K : PySem.W.Frag) (R : List SV → PyData → Prop) : Sp := fun vs H Q _ => ∃ ss r, SvAll K H vs ss ∧ ss.all isDG = true ∧ R ss r ∧ ∀ v H', Same H H' → Rp K H' v r → Q v H'
section
variable {X : Cx} {H0 : Hp} {env : En} {e : Expr} {es : List Expr} {pos px p : Pos} {x : Str} {i j : Nat} {kvs : List (List Key × PyData)}
theorem SvAll.mono {K : PySem.W.Frag} {H H' : Hp} (e : Same H H') : ∀ {vs : List V} {ss : List SV}, SvAll K H vs ss → SvAll K H' vs ss
  | _, _, .nil => .nil
  | _, _, .cons h t => .cons (h.mono e) (SvAll.mono e t)
theorem Ev.v {d : PyData} (h : Ev X env e d) : EvV X env e (.d d) := wkE h fun σ H Q ⟨hE, q⟩ => ⟨hE, fun v H' s r => q v H' s r⟩
theorem evv_m (hN : nmIx x X.N 0 = some i) (hv : Vis X.env.scope x) (he : env[i]? = some (some (.m kvs))) (hb : (x == ("__debug__" : Str)) = false := by decide) (hcd : (x == ("__classdict__" : Str)) = false := by decide) : EvV X env (.Name x px) (.g (mFix kvs)) :=
  wkE (pe_var (nm0 hN) hv hb hcd) fun σ H Q ⟨hE, q⟩ => by
    obtain ⟨v, h1, l, kv, rfl, h3, h4⟩ := hE i _ he
    exact ⟨_, h1, q _ H (Same.refl H) ⟨l, kv, rfl, h3, h4⟩⟩
theorem evv_g (hN : nmIx x X.N 0 = some i) (hv : Vis X.env.scope x) (he : env[i]? = some (some (.g (mFix kvs)))) (hb : (x == ("__debug__" : Str)) = false := by decide) (hcd : (x == ("__classdict__" : Str)) = false := by decide) : EvV X env (.Name x px) (.g (mFix kvs)) :=
  wkE (pe_var (nm0 hN) hv hb hcd) fun σ H Q ⟨hE, q⟩ => by
    obtain ⟨v, h1, h2⟩ := hE i _ he
    exact ⟨_, h1, q _ H (Same.refl H) h2⟩
theorem evs_nil : EvVs X env [] [] := wkA pa_nil fun σ H Q ⟨_, q⟩ => q [] H (Same.refl H) .nil
theorem evs_cons {s : SV} {ss : List SV} (h : EvV X env e s) (hr : EvVs X env es ss) (hs : starEach (e :: es) X.env = (false, eval e X.env) :: starEach es X.env := by rfl) : EvVs X env (e :: es) (s :: ss) :=
  wkA (pa_cons h hr hs) fun σ H Q ⟨he, q⟩ => ⟨he, fun v H1 s1 d1 => ⟨he.mono s1, fun vs H2 s2 d2 => q (v :: vs) H2 (s1.trans s2) (.cons (d1.mono s2) d2)⟩⟩
theorem ev_callS {k : Nat} {R : List SV → PyData → Prop} {ss : List SV} {r : PyData} (c : Cd X.prog X.w X.K X.mg X.base k x (spS X.K R)) (hr : Room j X.A) (hk : k ≤ j) (hg : Gl X x) (ha : EvVs X env (e :: es) ss) (hd : ss.all isDG = true) (hR : R ss r)
    (hdb : (x == ("__debug__" : Str)) = false := by decide) (he : starEach (e :: es) X.env = (false, eval e X.env) :: starEach es X.env := by rfl) (hpl : (backTo pos (starEach es X.env)).any (·.1) = false := by rfl) :
    Ev X env (.Call (.Name x p) (e :: es) [] pos) r := by
  obtain ⟨f, fd, ps, F, hm, hk', hb⟩ := c.ex
  refine wkE (pe_call F (hr.mono hk) hg hm hk' hb .nil pass0 ha hdb he hpl) fun σ H Q ⟨hE, q⟩ => ⟨hE, fun vs H1 s1 d1 => ?_⟩
  show spS X.K R (vs ++ []) H1 Q E0
  rw [List.append_nil]
  exact ⟨ss, r, d1, hd, hR, fun v H2 s2 d2 => q v H2 (s1.trans s2) d2⟩
end
def env0S (n : Nat) (ss : List SV) : En := ss.map some ++ List.replicate (n - ss.length) none
theorem SvAll.get {K : PySem.W.Frag} {H : Hp} : ∀ {vs : List V} {ss : List SV} {i : Nat} {s : SV}, SvAll K H vs ss → ss[i]? = some s → ∃ v, vs[i]? = some v ∧ SvE K H v s
  | _, _, _, _, .nil, h => by simp at h
  | v :: _, _, 0, d, .cons h _, e => by
    simp at e
    subst e
    exact ⟨v, rfl, h⟩
  | _ :: _, _, i + 1, d, .cons _ t, e => by
    obtain ⟨v, h1, h2⟩ := SvAll.get (i := i) (s := d) t (by simpa using e)
    exact ⟨v, by simpa using h1, h2⟩
theorem st0S {K : PySem.W.Frag} {H : Hp} {N : List Str} {vs : List V} {ss : List SV} (h : SvAll K H vs ss) (hd : ss.all isDG = true) : StOk K H H H (start N vs) (env0S N.length ss) := by
  have hl : vs.length = ss.length := Paired.length h
  have at_ : ∀ (i : Nat) (s : SV), (env0S N.length ss)[i]? = some (some s) → ss[i]? = some s := fun i s hi => by
    unfold env0S at hi
    by_cases hlt : i < ss.length
    · rw [List.getElem?_append_left (by simpa using hlt), List.getElem?_map, List.getElem?_eq_getElem hlt] at hi
      cases hi
      exact List.getElem?_eq_getElem hlt
    · rw [List.getElem?_append_right (by simpa using hlt), List.getElem?_replicate] at hi
      split at hi
      · cases hi
      · cases hi
  have dg : ∀ (i : Nat) (s : SV), ss[i]? = some s → isDG s = true := fun i s hi => List.all_eq_true.mp hd s (List.mem_of_getElem? hi)
  refine ⟨Same.refl _, Same.refl _, ?_, fun i s hi => ?_, fun i j s t v hi hj so => ?_⟩
  · unfold L2.start env0S
    simp [hl]
  · have hs := at_ i s hi
    obtain ⟨v, hv, r⟩ := SvAll.get h hs
    refine ⟨v, ?_, ?_⟩
    · unfold L2.start
      have hlt : i < vs.length := (List.getElem?_eq_some_iff.mp hv).1
      rw [List.getElem?_append_left (by simpa using hlt), List.getElem?_map, hv]
      rfl
    · have := dg i s hs
      cases s with
      | d x => exact .inl r
      | g R => exact r
      | _ => cases this
  · have := dg i s (at_ i s hi)
    cases s with
    | d x => cases so
    | g R => cases so
    | _ => cases this
theorem cdS {P : Program} {w : World} {K : PySem.W.Frag} {mg : Str → Option Value} {base : Heap} {x : Str} {st : Stmt} {N ps : List Str} {k : Nat} {R : List SV → PyData → Prop} (F : Df K mg x st ps) (S : FnScope N ps (defScope st)) (hl : ∀ ss r, R ss r → ss.length = ps.length)
    (body : ∀ (f : Addr) (cdv : Value) (A : Around) (outer : List Env) (s : Shared) (H : Hp) (E : XK), Room k (CxD P w K mg base N x st f cdv A outer s H E).A → (CxD P w K mg base N x st f cdv A outer s H E).N.Nodup → ∀ (ss : List SV) (r : PyData) (D : Ends), R ss r → RtD K H D r →
      Run (CxD P w K mg base N x st f cdv A outer s H E) H (env0S N.length ss) (defBody st) D) : Cd P w K mg base (k + 1) x (spS K R) := by
  obtain ⟨f, fd, hF, hm, hb⟩ := F.ex
  refine ⟨f, fd, ps, ?_, hm, hF.kp, hb⟩
  refine hF.ok S (fun vs H Q E h => ?_) (fun cdv A outer s H vs Q E hr h => ?_)
  · obtain ⟨ss, r, hd, _, hR, _⟩ := h
    rw [show vs.length = ss.length from Paired.length hd, hl ss r hR]
  · obtain ⟨ss, r, hd, hdg, hR, q⟩ := h
    exact body f cdv A outer s H E hr S.nd ss r { nx := fun _ H' => Q .non H', rt := Q } hR q H _ H (st0S hd hdg)
/-! ### three names; if key not in d: d[..] = .. -/
section
variable {X : Cx} {H0 : Hp} {env : En} {D : Ends} {rest body : List Stmt} {t e e2 : Expr} {pos px pos' pos2 p : Pos} {x y z : Str} {i j l k0 : Nat} {kvs kvs' : List (List Key × PyData)} {k : List Key} {d : PyData}
theorem rs_un3 {px py pz pt : Pos} {kt : Nat} {a b c : PyData} (hi : nmIx x X.N 0 = some i) (hj : nmIx y X.N 0 = some j) (hl : nmIx z X.N 0 = some l) (hN : X.N.Nodup) (hx : Loc X.env.scope x) (hy : Loc X.env.scope y) (hz : Loc X.env.scope z) (he : Ev X env e (.tuple [a, b, c])) (hf : fz (.tuple [a, b, c]) = true)
    (k : Run X H0 (((env.set i (some (.d a))).set j (some (.d b))).set l (some (.d c))) rest D) (hc : X.calm = true := by rfl)
    (hs : swapsWithSole [.Tuple [.Name x px, .Name y py, .Name z pz] kt pt] e pos.line X.env = pure false := by rfl) (hw : swappedStores [.Tuple [.Name x px, .Name y py, .Name z pz] kt pt] e X.env = pure none := by rfl)
    (hfx : X.fn x = true ∨ X.env.scope.names.lookup x = some .local := by first | exact .inl rfl | exact .inr rfl) (hfy : X.fn y = true ∨ X.env.scope.names.lookup y = some .local := by first | exact .inl rfl | exact .inr rfl) (hfz : X.fn z = true ∨ X.env.scope.names.lookup z = some .local := by first | exact .inl rfl | exact .inr rfl)
    (h1 : (assignEach [.Tuple [.Name x px, .Name y py, .Name z pz] kt pt] X.env).map (·.2) = [assign (.Tuple [.Name x px, .Name y py, .Name z pz] kt pt) X.env] := by rfl)
    (h2 : (assignEach [.Name x px, .Name y py, .Name z pz] X.env).map (·.2) = assign (.Name x px) X.env :: (assignEach [.Name y py, .Name z pz] X.env).map (·.2) := by rfl)
    (h3 : (assignEach [.Name y py, .Name z pz] X.env).map (·.2) = assign (.Name y py) X.env :: (assignEach [.Name z pz] X.env).map (·.2) := by rfl)
    (h4 : (assignEach [.Name z pz] X.env).map (·.2) = assign (.Name z pz) X.env :: (assignEach [] X.env).map (·.2) := by rfl)
    (hn : (assignEach [.Name x px, .Name y py, .Name z pz] X.env).length = 3 := by rfl) (hst : (assignEach [.Name x px, .Name y py, .Name z pz] X.env).findIdx? (·.1) = none := by rfl) :
    Run X H0 env (.Assign [.Tuple [.Name x px, .Name y py, .Name z pz] kt pt] e pos :: rest) D := run_un3 i j l hc hN (nm0 hi) (nm0 hj) (nm0 hl) hx hy hz he hf k hs hw hfx hfy hfz h1 h2 h3 h4 hn hst
theorem set_self {α : Type} : ∀ {l : List α} {i : Nat} {a : α}, l[i]? = some a → l.set i a = l
  | [], i, a, h => by simp at h
  | b :: l, 0, a, h => by
    simp at h
    rw [h]
    rfl
  | b :: l, i + 1, a, h => by
    rw [List.set_cons_succ, set_self (by simpa using h)]
theorem run_ifput (c : Bool) (ht : EvT X env t c) (hr : Room j X.A) (hN : nmIx x X.N 0 = some i) (hv : Vis X.env.scope x) (he : env[i]? = some (some (.m kvs))) (hi : Ev X env e (kD k)) (h2 : Ev X env e2 d) (hf : fz d = true) (hz : kvs.length ≤ 1000000)
    (hk : kvs' = if c = true then mput kvs k d else kvs) (kk : Run X H0 (env.set i (some (.m kvs'))) rest D)
    (hb : (x == ("__debug__" : Str)) = false := by decide) (hcd : (x == ("__classdict__" : Str)) = false := by decide)
    (hs : swapsWith e2 (some (.Subscript (.Name x px) e pos')) pos2.line X.env = pure false := by rfl) (no : noObj env = true := by rfl) : Run X H0 env (.If t [.Assign [.Subscript (.Name x px) e pos'] e2 pos2] [] pos :: rest) D := by
  subst hk
  cases c with
  | true => exact run_if (z := true) ht (fun _ => run_mput hr hN hv he hi h2 hf hz (run_nx kk) hb hcd hs no) (fun z => by cases z)
  | false =>
    rw [if_neg (by decide), set_self he] at kk
    exact run_if (z := false) ht (fun z => by cases z) (fun _ => run_nx kk)
end
end Sw

namespace Sw
open PySem PySem.Spec PyProof.Rows L2
local macro_rules | `(tactic| walk_at "vis") => `(tactic| first | exact .inl rfl | exact .inr (.inl rfl) | exact .inr (.inr rfl))
local macro_rules | `(tactic| walk_at "loc") => `(tactic| first | exact .inl rfl | exact .inr rfl)
local macro_rules | `(tactic| walk_at "str") => `(tactic| first | with_reducible exact s_ | with_reducible exact s_n | with_reducible exact s_w | with_reducible exact s_s | with_reducible exact s_e | with_reducible exact s_ns | with_reducible exact s_nwse | with_reducible exact s_nesw)
local macro_rules | `(tactic| walk_at "len") => `(tactic| first | omega | (simp; done) | (simp; omega))
local macro_rules | `(tactic| walk_at "bin") => `(tactic| first | with_reducible exact bin_addI | with_reducible exact bin_subI | with_reducible exact bin_modI (by omega) | with_reducible exact bin_addW (by walk_at "len"))
local macro_rules | `(tactic| walk_at "cmp") => `(tactic| first | with_reducible exact cmp_eqI | with_reducible exact cmp_neI | with_reducible exact cmp_eqW | with_reducible exact cmp_neW | with_reducible exact cmp_eqLn | with_reducible exact cmp_eqLw | with_reducible exact cmp_eqLs | with_reducible exact cmp_eqLe | with_reducible exact cmp_neLn | with_reducible exact cmp_neLw | with_reducible exact cmp_neLs | with_reducible exact cmp_neLe | with_reducible exact cmp_eqW0 | with_reducible exact cmp_neW0 | with_reducible exact cmp_eqL | with_reducible exact cmp_neL | with_reducible exact cmp_eqS | with_reducible exact cmp_neS | with_reducible exact cmp_ltI | with_reducible exact cmp_leI | with_reducible exact cmp_gtI | with_reducible exact cmp_geI | with_reducible exact cmp_inL | with_reducible exact cmp_inS)
local macro_rules | `(tactic| walk_at "mark") => `(tactic| first | exact nomark _ | rfl)
local macro_rules | `(tactic| walk_at "ea") => `(tactic| first | with_reducible exact ea_nil | (refine' ea_cons ?e ?r; (case e => walk_at "ev"); (case r => walk_at "ea")))
local macro_rules | `(tactic| walk_at "el") => `(tactic| first
  | (refine' evl_call (by assumption) (by assumption) (by decide) rfl ?a ?r; (case a => walk_at "ea"); (case r => walk_at "rel"))
  | (refine' evl_lst ?a ?l; (case a => walk_at "ea"); (case l => simp)))
local macro_rules | `(tactic| walk_at "ev") => `(tactic| first
  | with_reducible exact ev_int
  | (refine' ev_nm rfl ?v rfl rfl; (case v => walk_at "vis"))
  | (refine' ev_strS ?h; (case h => walk_at "str"))
  | (refine' ev_tup ?a ?l; (case a => walk_at "ea"); (case l => simp))
  | (refine' ev_bin ?a ?b ?r; (case a => walk_at "ev"); (case b => walk_at "ev"); (case r => walk_at "bin"))
  | (refine' ev_un ?a ?r; (case a => walk_at "ev"); (case r => exact un_negI))
  | (refine' ev_call (by assumption) (by assumption) (by decide) rfl ?a ?r; (case a => walk_at "ea"); (case r => walk_at "rel"))
  | (refine' ev_callB ?c rfl ?m ?b ?a; (case b => walk_at "boot"); (case a => walk_at "ea"); (case m => walk_at "blt"); (case c => walk_at "call"))
  | (refine' ev_isi ?e rfl ?m rfl ?n ?b ?t ?k ?d; (case b => walk_at "boot"); (case e => walk_at "ev"); (case m => walk_at "blt"); (case n => walk_at "blt"); (case t => walk_at "ty"); (case k => walk_at "kit"); (case d => decide))
  | (refine' ev_m1 PySem.F.slot_str_count PySem.F.type_str_count ?m ?t ?o ?e; (case o => walk_at "ev"); (case t => walk_at "ty"); (case e => walk_at "ev"); (case m => first | with_reducible exact mt_countWn | with_reducible exact mt_countWw | with_reducible exact mt_countWs | with_reducible exact mt_countWe))
  | (refine' ev_m1 PySem.F.slot_str_index PySem.F.type_str_index ?m ?t ?o ?e; (case o => walk_at "ev"); (case t => walk_at "ty"); (case e => walk_at "ev"); (case m => exact mt_indexW))
  | (refine' ev_m1 PySem.F.slot_str_strip PySem.F.type_str_strip ?m ?t ?o ?e; (case o => walk_at "ev"); (case t => walk_at "ty"); (case e => walk_at "ev"); (case m => exact mt_stripW (by walk_at "len")))
  | (refine' ev_ix ?a ?b ?r; (case a => walk_at "ev"); (case b => walk_at "ev"); (case r => walk_at "ix"))
  | (refine' EvL.d ?a; (case a => walk_at "el"))
  | exact ev_globS rfl (by assumption)
  | with_reducible exact ev_bl | with_reducible exact ev_non)
local macro_rules | `(tactic| walk_at "blt") => `(tactic| first
  | exact Blt.isinstance (by assumption) | exact Blt.int (by assumption) | exact Blt.bool (by assumption) | exact Blt.str (by assumption) | exact Blt.list (by assumption) | exact Blt.tuple (by assumption) | exact Blt.range (by assumption) | exact Blt.len (by assumption) | exact Blt.sum (by assumption) | exact Blt.abs (by assumption) | exact Blt.min (by assumption) | exact Blt.all (by assumption) | exact Blt.any (by assumption) | exact Blt.sorted (by assumption) | exact Blt.set (by assumption) | exact Blt.enumerate (by assumption) | exact Blt.zip (by assumption) | exact Blt.reversed (by assumption))
local macro_rules | `(tactic| walk_at "call") => `(tactic| first | exact ev_lenW (by walk_at "len") | exact call_lenL | exact call_lenT | exact call_absI | exact call_minI rfl | exact call_sumI rfl)
local macro_rules | `(tactic| walk_at "et") => `(tactic| (refine' EvT.is ?a ?b; (case a => walk_at "et0"); (case b => rfl)))
local macro_rules | `(tactic| walk_at "evg") => `(tactic| (refine' Ev.is ?a ?b; (case a => walk_at "ev"); (case b => rfl)))
local macro_rules | `(tactic| walk_at "et0") => `(tactic| first
  | (refine' et_not ?a; (case a => walk_at "et0"))
  | (refine' et_cmp ?a ?b ?r ?m; (case a => walk_at "ev"); (case b => walk_at "ev"); (case r => walk_at "cmp"); (case m => walk_at "mark"))
  | (refine' et_val ?a ?h; (case a => walk_at "ev"); (case h => (intro _; rfl))))
local macro_rules | `(tactic| walk_at "boot") => `(tactic| first | with_reducible exact b_int | with_reducible exact b_bool | with_reducible exact b_str | with_reducible exact b_list | with_reducible exact b_tuple | with_reducible exact b_range | with_reducible exact b_set | with_reducible exact b_enumerate | with_reducible exact b_zip | with_reducible exact b_reversed | with_reducible exact b_isinstance | with_reducible exact b_len | with_reducible exact b_sum | with_reducible exact b_abs | with_reducible exact b_min | with_reducible exact b_all | with_reducible exact b_any | with_reducible exact b_sorted)
local macro_rules | `(tactic| walk_at "ix") => `(tactic| first | exact ix_lett)
local macro_rules | `(tactic| walk_at "kit") => `(tactic| first | with_reducible exact k_int_int | with_reducible exact k_int_bool | with_reducible exact k_int_str | with_reducible exact k_int_list | with_reducible exact k_int_tuple | with_reducible exact k_bool_int | with_reducible exact k_bool_bool | with_reducible exact k_bool_str | with_reducible exact k_bool_list | with_reducible exact k_bool_tuple | with_reducible exact k_str_int | with_reducible exact k_str_bool | with_reducible exact k_str_str | with_reducible exact k_str_list | with_reducible exact k_str_tuple | with_reducible exact k_list_int | with_reducible exact k_list_bool | with_reducible exact k_list_str | with_reducible exact k_list_list | with_reducible exact k_list_tuple | with_reducible exact k_tuple_int | with_reducible exact k_tuple_bool | with_reducible exact k_tuple_str | with_reducible exact k_tuple_list | with_reducible exact k_tuple_tuple | with_reducible exact k_NoneType_int | with_reducible exact k_NoneType_bool | with_reducible exact k_NoneType_str | with_reducible exact k_NoneType_list | with_reducible exact k_NoneType_tuple)
local macro_rules | `(tactic| walk_at "ty") => `(tactic| first | with_reducible exact ty_int | with_reducible exact ty_W | with_reducible exact ty_ptD | with_reducible exact ty_bool | with_reducible exact ty_str | with_reducible exact ty_list | with_reducible exact ty_tuple | with_reducible exact ty_none)
local macro_rules | `(tactic| walk_at "rel") => `(tactic| first | exact ⟨_, by walk_at "len", rfl, rfl⟩ | exact ⟨_, _, by walk_at "len", rfl, rfl⟩ | exact ⟨_, rfl, rfl⟩ | exact ⟨_, _, rfl, rfl⟩)
def topS (i : Nat) : Stmt := PySem.Challenge.pw_squarewalk_k09_whole_branches.main.body.getD i (.Pass ⟨0, 0, 0, 0⟩)
abbrev s__wall : Stmt := topS 0
theorem sc__wall : FnScope ["k"] ["k"] (defScope s__wall) := ⟨rfl, rfl, rfl, by decide +kernel, rfl, by decide +kernel, by decide +kernel⟩
abbrev s_asked_walk : Stmt := topS 8
theorem sc_asked_walk : FnScope ["walk"] ["walk"] (defScope s_asked_walk) := ⟨rfl, rfl, rfl, by decide +kernel, rfl, by decide +kernel, by decide +kernel⟩
abbrev s_stepped : Stmt := topS 9
theorem sc_stepped : FnScope ["place", "letter", "x", "y"] ["place", "letter"] (defScope s_stepped) := ⟨rfl, rfl, rfl, by decide +kernel, rfl, by decide +kernel, by decide +kernel⟩
abbrev s_walked : Stmt := topS 10
theorem sc_walked : FnScope ["walk", "found", "letter"] ["walk"] (defScope s_walked) := ⟨rfl, rfl, rfl, by decide +kernel, rfl, by decide +kernel, by decide +kernel⟩
abbrev s_end : Stmt := topS 11
theorem sc_end : FnScope ["walk"] ["walk"] (defScope s_end) := ⟨rfl, rfl, rfl, by decide +kernel, rfl, by decide +kernel, by decide +kernel⟩
abbrev s_asked_closed : Stmt := topS 12
theorem sc_asked_closed : FnScope ["walk"] ["walk"] (defScope s_asked_closed) := ⟨rfl, rfl, rfl, by decide +kernel, rfl, by decide +kernel, by decide +kernel⟩
abbrev s_area_of : Stmt := topS 14
theorem sc_area_of : FnScope ["walk", "found", "x", "y", "letter"] ["walk"] (defScope s_area_of) := ⟨rfl, rfl, rfl, by decide +kernel, rfl, by decide +kernel, by decide +kernel⟩
abbrev s_area : Stmt := topS 15
theorem sc_area : FnScope ["walk"] ["walk"] (defScope s_area) := ⟨rfl, rfl, rfl, by decide +kernel, rfl, by decide +kernel, by decide +kernel⟩
abbrev s_crossings : Stmt := topS 16
theorem sc_crossings : FnScope ["walk", "found", "x", "y", "letter"] ["walk"] (defScope s_crossings) := ⟨rfl, rfl, rfl, by decide +kernel, rfl, by decide +kernel, by decide +kernel⟩
abbrev s_squares_of : Stmt := topS 17
theorem sc_squares_of : FnScope ["walk", "told", "rows", "found", "times", "at", "y", "x", "column"] ["walk"] (defScope s_squares_of) := ⟨rfl, rfl, rfl, by decide +kernel, rfl, by decide +kernel, by decide +kernel⟩
abbrev s_squares : Stmt := topS 18
theorem sc_squares : FnScope ["walk"] ["walk"] (defScope s_squares) := ⟨rfl, rfl, rfl, by decide +kernel, rfl, by decide +kernel, by decide +kernel⟩
abbrev s_own_places : Stmt := topS 21
theorem sc_own_places : FnScope ["walk", "found"] ["walk"] (defScope s_own_places) := ⟨rfl, rfl, rfl, by decide +kernel, rfl, by decide +kernel, by decide +kernel⟩
abbrev s_Simple___init__ : Stmt := inClass (topS 22) 0
theorem sc_Simple___init__ : FnScope ["self", "places"] ["self", "places"] (defScope s_Simple___init__) := ⟨rfl, rfl, rfl, by decide +kernel, rfl, by decide +kernel, by decide +kernel⟩
abbrev s_Simple_shows : Stmt := inClass (topS 22) 1
theorem sc_Simple_shows : FnScope ["self", "walk"] ["self", "walk"] (defScope s_Simple_shows) := ⟨rfl, rfl, rfl, by decide +kernel, rfl, by decide +kernel, by decide +kernel⟩
abbrev s_Twice___init__ : Stmt := inClass (topS 23) 0
theorem sc_Twice___init__ : FnScope ["self", "first", "second"] ["self", "first", "second"] (defScope s_Twice___init__) := ⟨rfl, rfl, rfl, by decide +kernel, rfl, by decide +kernel, by decide +kernel⟩
abbrev s_Twice_shows : Stmt := inClass (topS 23) 1
theorem sc_Twice_shows : FnScope ["self", "walk"] ["self", "walk"] (defScope s_Twice_shows) := ⟨rfl, rfl, rfl, by decide +kernel, rfl, by decide +kernel, by decide +kernel⟩
abbrev s_meets : Stmt := topS 24
theorem sc_meets : FnScope ["walk", "seen", "found", "at", "place"] ["walk"] (defScope s_meets) := ⟨rfl, rfl, rfl, by decide +kernel, rfl, by decide +kernel, by decide +kernel⟩
abbrev s_asked_loop : Stmt := topS 26
theorem sc_asked_loop : FnScope ["walk"] ["walk"] (defScope s_asked_loop) := ⟨rfl, rfl, rfl, by decide +kernel, rfl, by decide +kernel, by decide +kernel⟩
abbrev s_turns : Stmt := topS 27
theorem sc_turns : FnScope ["walk", "ways", "at", "letter"] ["walk"] (defScope s_turns) := ⟨rfl, rfl, rfl, by decide +kernel, rfl, by decide +kernel, by decide +kernel⟩
abbrev s_within : Stmt := topS 28
theorem sc_within : FnScope ["walk", "inside", "square", "times", "found", "x", "y", "beside"] ["walk"] (defScope s_within) := ⟨rfl, rfl, rfl, by decide +kernel, rfl, by decide +kernel, by decide +kernel⟩
abbrev s__law_tree : Stmt := topS 30
theorem sc__law_tree : FnScope ["_law_script", "_law_nodes", "_law_found", "_law_cell", "_law_x", "_law_y", "_law_along", "_law_up", "_law_node"] ["_law_script"] (defScope s__law_tree) := ⟨rfl, rfl, rfl, by decide +kernel, rfl, by decide +kernel, by decide +kernel⟩
abbrev s__law_rim : Stmt := topS 31
theorem sc__law_rim : FnScope ["_law_tree_here", "_law_start", "_law_ways", "_law_x", "_law_y", "_law_steps", "_law_letter"] ["_law_tree_here", "_law_start"] (defScope s__law_rim) := ⟨rfl, rfl, rfl, by decide +kernel, rfl, by decide +kernel, by decide +kernel⟩
abbrev s__law_inner : Stmt := topS 32
theorem sc__law_inner : FnScope ["_law_tree_here", "_law_found", "_law_x", "_law_y"] ["_law_tree_here"] (defScope s__law_inner) := ⟨rfl, rfl, rfl, by decide +kernel, rfl, by decide +kernel, by decide +kernel⟩
abbrev s__law_right : Stmt := topS 33
theorem sc__law_right : FnScope ["_law_loop", "_law_tree_here", "_law_again", "_law_found", "_law_square", "_law_left", "_law_right_here"] ["_law_loop", "_law_tree_here"] (defScope s__law_right) := ⟨rfl, rfl, rfl, by decide +kernel, rfl, by decide +kernel, by decide +kernel⟩
abbrev s_law : Stmt := topS 34
theorem sc_law : FnScope ["_law_script", "_law_tree_here", "_law_first", "_law_second", "_law_start", "_law_loop", "_law_moved", "_law_x", "_law_y", "_law_great", "_law_square", "_law_letter"] ["_law_script"] (defScope s_law) := ⟨rfl, rfl, rfl, by decide +kernel, rfl, by decide +kernel, by decide +kernel⟩
/-! ### what the defs promise -/
def RIsNum : List PyData → PyData → Prop := fun ds r => ∃ i : Int, ds = [.int i] ∧ r = .bool true
def RAskW : List PyData → PyData → Prop := fun ds r => ∃ v : Wk, v.length ≤ 9000 ∧ ds = [W v] ∧ r = .none
def RAskN : List PyData → PyData → Prop := fun ds r => ∃ i : Int, ds = [.int i] ∧ r = .none
def RStepped : List PyData → PyData → Prop := fun ds r => ∃ p d, ds = [ptD p, L1 d] ∧ r = ptD (go p d)
def RWalked : List PyData → List PyData → Prop := fun ds r => ∃ v : Wk, v.length ≤ 9000 ∧ ds = [W v] ∧ r = (pls0 v).map ptD
def REnd : List PyData → PyData → Prop := fun ds r => ∃ v : Wk, v.length ≤ 9000 ∧ ds = [W v] ∧ r = ptD (goAll (0, 0) v)
def RAskC : List PyData → PyData → Prop := fun ds r => ∃ v : Wk, v.length ≤ 9000 ∧ goAll (0, 0) v = (0, 0) ∧ ds = [W v] ∧ r = .none
def RTurned : List PyData → PyData → Prop := fun ds r => ∃ (v : Wk) (k : Int), v.length ≤ 9000 ∧ ds = [W v, .int k] ∧ r = W (v.map (turnD k))
def mir : Dr → Dr
  | .e => .w
  | .w => .e
  | d => d
def RMir : List PyData → PyData → Prop := fun ds r => ∃ v : Wk, v.length ≤ 9000 ∧ ds = [W v] ∧ r = W (v.map mir)
def backW (v : Wk) : Wk := v.reverse.map (turnD 2)
def RBack : List PyData → PyData → Prop := fun ds r => ∃ v : Wk, v.length ≤ 9000 ∧ ds = [W v] ∧ r = W (backW v)
def rotW (v : Wk) (k : Int) : Wk := v.drop (k % (v.length : Int)).toNat ++ v.take (k % (v.length : Int)).toNat
def RBegun : List PyData → PyData → Prop := fun ds r => ∃ (v : Wk) (k : Int), v.length ≤ 9000 ∧ goAll (0, 0) v = (0, 0) ∧ ds = [W v, .int k] ∧ r = W (rotW v k)
theorem pl_ptD (p : Pt) : pl 9 (ptD p) = true := rfl
theorem ptD_inj {p q : Pt} (h : ptD p = ptD q) : p = q := by
  unfold ptD at h
  injection h with h
  injection h with h1 h2
  injection h2 with h2 _
  injection h1 with h1
  injection h2 with h2
  exact Prod.ext h1 h2
theorem fz_ptD (p : Pt) : fz (ptD p) = true := rfl
theorem fz_W (v : Wk) : fz (W v) = true := rfl
theorem atI_neg1 {α : Type} (xs : List α) (v : α) (h : xs.getLast? = some v) : atI xs (-1) = some v := by
  obtain ⟨ys, rfl⟩ : ∃ ys, xs = ys ++ [v] := by
    cases xs with
    | nil => cases h
    | cons a r => exact List.getLast?_eq_some_iff.mp h
  exact atI_last ys v
section
variable {P : Program} {w : World} {K : PySem.W.Frag} {mg : Str → Option Value} {base : Heap}
theorem ok_asked_walk (F : Df K mg "asked_walk" s_asked_walk ["walk"]) (hb : Blt mg) (hL : ∃ t, mg "LETTERS" = some (.str (SX.S [110, 119, 115, 101]) t)) : Cd P w K mg base 1 "asked_walk" (spD K RAskW) := by
  refine cdD F sc_asked_walk (fun ds r ⟨i, _, e, _⟩ => by rw [e]; rfl) fun f cdv A outer s H E hr nd ds r D ⟨v, hv, e1, e2⟩ hD hN => ?_
  subst e1 e2
  obtain ⟨t, ht⟩ := hL
  refine run_env (e' := [some (.d (W v))]) rfl ?_
  refine run_ifF0 (EvT.is (et_w (ew_or (by walk_at "et0") fun _ => ew_or1 (by walk_at "et0"))) rfl) ?_
  exact run_fall (hN rfl)
theorem ok_stepped (F : Df K mg "stepped" s_stepped ["place", "letter"]) : Cd P w K mg base 1 "stepped" (spD K RStepped) := by
  refine cdD F sc_stepped (fun ds r ⟨_, _, e, _⟩ => by rw [e]; rfl) fun f cdv A outer s H E hr nd ds r D ⟨p, d, e1, e2⟩ hD hN => ?_
  subst e1 e2
  refine run_env (e' := [some (.d (ptD p)), some (.d (L1 d)), none, none]) rfl ?_
  refine rs_un2 rfl rfl nd (.inl rfl) (.inl rfl) (a := .int p.1) (b := .int p.2) (by walk_at "ev") rfl ?_
  refine run_if (z := decide (d = .n)) (by walk_at "et") (fun z => ?_) (fun z => run_nx ?_)
  · have hD' : RtD K H D (ptD (p.1, p.2 + 1)) := by
      have e := ofT z
      subst e
      simpa [go, Dr.dx, Dr.dy, Int.sub_eq_add_neg] using hD
    exact run_ret (by walk_at "ev") hD'
  refine run_if (z := decide (d = .s)) (by walk_at "et") (fun z => ?_) (fun z2 => run_nx ?_)
  · have hD' : RtD K H D (ptD (p.1, p.2 - 1)) := by
      have e := ofT z
      subst e
      simpa [go, Dr.dx, Dr.dy, Int.sub_eq_add_neg] using hD
    exact run_ret (by walk_at "ev") hD'
  refine run_if (z := decide (d = .e)) (by walk_at "et") (fun z => ?_) (fun z3 => run_nx ?_)
  · have hD' : RtD K H D (ptD (p.1 + 1, p.2)) := by
      have e := ofT z
      subst e
      simpa [go, Dr.dx, Dr.dy, Int.sub_eq_add_neg] using hD
    exact run_ret (by walk_at "ev") hD'
  have hD' : RtD K H D (ptD (p.1 - 1, p.2)) := by
    have e : d = .w := by cases d <;> first | rfl | (revert z z2 z3; decide)
    subst e
    simpa [go, Dr.dx, Dr.dy, Int.sub_eq_add_neg] using hD
  exact run_ret (by walk_at "ev") hD'
theorem ok_walked (F : Df K mg "walked" s_walked ["walk"]) (c1 : Cd P w K mg base 1 "stepped" (spD K RStepped)) : Cd P w K mg base 2 "walked" (spL K RWalked) := by
  refine cdL F sc_walked (fun ds r ⟨_, _, e, _⟩ => by rw [e]; rfl) fun f cdv A outer s H E hr nd ds r D ⟨v, hv, e1, e2⟩ hD => ?_
  subst e1 e2
  refine run_env (e' := [some (.d (W v)), none, none]) rfl ?_
  refine rs_L (ds := [ptD (0, 0)]) rfl nd (.inl rfl) (by walk_at "el") rfl ?_
  refine rs_for (n := v.length) (item := fun i => L1 (v.getD i .n)) (fun i => [some (.d (W v)), some (.l ((pls0 (v.take i)).map ptD)), none]) rfl nd (.inl rfl) PassesOwn.never (its_W (by walk_at "ev")) (.keep rfl (.keep rfl (.skip .nil))) (fun i _ => rfl) (fun i Hl D' hi hs hn hrt => ?_) ?_
  · have e1 : pls0 (v.take (i + 1)) = pls0 (v.take i) ++ [go (goAll (0, 0) (v.take i)) (v.getD i .n)] := by
      rw [take_getD v .n i hi]
      exact walkFrom_snoc _ _ _
    have e2 : atI ((pls0 (v.take i)).map ptD) (-1) = some (ptD (goAll (0, 0) (v.take i))) := atI_neg1 _ _ (by
      rw [List.getLast?_map]
      unfold pls0
      rw [walkFrom_last]
      rfl)
    refine rs_app rfl (.inl rfl) rfl (d := ptD (go (goAll (0, 0) (v.take i)) (v.getD i .n))) (ev_call c1 hr (by decide) rfl (ea_cons (ev_ix (ev_nm rfl (.inl rfl) rfl rfl) (ev_un ev_int un_negI) (ix_L e2)) (ea_cons (by walk_at "ev") ea_nil)) ⟨_, _, rfl, rfl⟩) rfl (by rw [List.length_map]; unfold pls0; rw [walkFrom_len, List.length_take]; omega) ?_
    exact run_turn hn (.keep rfl (.keep (by rw [e1, List.map_append]; rfl) (.skip .nil)))
  · refine rs_retN rfl (.inl rfl) rfl ?_
    rw [List.take_length]
    exact hD
end
theorem lookup_mir (d : Dr) (h : ¬ (d = .n ∨ d = .s)) : ([(Str.ofString "e", PyData.str (SX.S [119])), (Str.ofString "w", PyData.str (SX.S [101]))] : List (Str × PyData)).lookup (SX.S [d.code]) = some (L1 (mir d)) := by
  cases d with
  | n => exact absurd (.inl rfl) h
  | s => exact absurd (.inr rfl) h
  | w => rfl
  | e => rfl
theorem in_ns (d : Dr) : decide (d.code ∈ [110, 115]) = decide (d = .n ∨ d = .s) := by cases d <;> rfl
section
variable {P : Program} {w : World} {K : PySem.W.Frag} {mg : Str → Option Value} {base : Heap}
theorem ok_end (F : Df K mg "end" s_end ["walk"]) (c1 : Cd P w K mg base 1 "asked_walk" (spD K RAskW)) : Cd P w K mg base 2 "end" (spD K REnd) := by
  refine cdD F sc_end (fun ds r ⟨_, _, e, _⟩ => by rw [e]; rfl) fun f cdv A outer s H E hr nd ds r D ⟨v, hv, e1, e2⟩ hD hN => ?_
  subst e1 e2
  refine run_env (e' := [some (.d (W v))]) rfl ?_
  refine run_expr (d := .none) (by walk_at "ev") ?_
  rw [goAll_end] at hD
  exact run_ret (by walk_at "evg") hD
theorem ok_asked_closed (F : Df K mg "asked_closed" s_asked_closed ["walk"]) (c1 : Cd P w K mg base 2 "end" (spD K REnd)) : Cd P w K mg base 3 "asked_closed" (spD K RAskC) := by
  refine cdD F sc_asked_closed (fun ds r ⟨_, _, _, e, _⟩ => by rw [e]; rfl) fun f cdv A outer s H E hr nd ds r D ⟨v, hv, hc, e1, e2⟩ hD hN => ?_
  subst e1 e2
  refine run_env (e' := [some (.d (W v))]) rfl ?_
  refine run_ifF0 (EvT.is (et_cmp (x := ptD (goAll (0, 0) v)) (y := ptD (0, 0)) (z := !true) (by walk_at "ev") (by walk_at "ev") (cmp_neD (b := true) hr rfl rfl ⟨fun _ => by rw [hc], fun _ => rfl⟩) (nomark _)) rfl) ?_
  exact run_fall (hN rfl)
end
/-! ### the law's own helpers -/
def lawD (c : Int) : Dr := match (c % 4).toNat with
  | 0 => .n
  | 1 => .e
  | 2 => .s
  | _ => .w
def lawW (ns : List Int) : Wk := ns.map lawD
def homeX (x : Int) : Wk := List.replicate x.natAbs (if 0 < x then .w else .e)
def homeY (y : Int) : Wk := List.replicate y.natAbs (if 0 < y then .s else .n)
def closedW (ns : List Int) : Wk := if ns.sum % 2 = 0 then lawW ns ++ homeY (goAll (0, 0) (lawW ns)).2 ++ homeX (goAll (0, 0) (lawW ns)).1 else lawW ns ++ homeX (goAll (0, 0) (lawW ns)).1 ++ homeY (goAll (0, 0) (lawW ns)).2
def RLWalk : List PyData → PyData → Prop := fun ds r => ∃ ns : List Int, ns.length ≤ 9000 ∧ ds = [.list (ns.map PyData.int)] ∧ r = W (lawW ns)
def RLClosed : List PyData → PyData → Prop := fun ds r => ∃ ns : List Int, ns.length ≤ 1000 ∧ ds = [.list (ns.map PyData.int)] ∧ r = W (closedW ns)
theorem lawW_len (ns : List Int) : (lawW ns).length = ns.length := List.length_map ..
theorem ix_nesw {X : Cx} {c : Int} : Ix X (.str (SX.S [110, 101, 115, 119])) (.int (c % 4)) (L1 (lawD c)) := by
  refine ix_S (l := [110, 101, 115, 119]) (c := (lawD c).code) ?_ (by decide)
  unfold lawD
  have h1 : 0 ≤ c % 4 := Int.emod_nonneg _ (by decide)
  have h2 : c % 4 < 4 := Int.emod_lt_of_pos _ (by decide)
  generalize c % 4 = m at h1 h2
  have h : m = 0 ∨ m = 1 ∨ m = 2 ∨ m = 3 := by omega
  rcases h with rfl | rfl | rfl | rfl <;> rfl
local macro_rules | `(tactic| walk_at "ix") => `(tactic| first | exact ix_lett | exact ix_nesw)
theorem getD_ints (ns : List Int) (i : Nat) (h : i < ns.length) : (ns.map PyData.int).getD i .none = .int (ns.getD i 0) := by
  simp [List.getD_eq_getElem?_getD, h]
theorem ite_ints {X : Cx} {env : En} {tg e : Expr} {ns : List Int} (he : Ev X env e (.list (ns.map PyData.int))) : ItE X env tg e ns.length (fun i => .int (ns.getD i 0)) := by
  have h := ite_list (tg := tg) he
  rw [List.length_map] at h
  exact h.congr fun i hi => getD_ints ns i hi
theorem rep1 (c : Nat) (n : Nat) : (List.replicate n [c]).flatten = List.replicate n c := by
  induction n with
  | zero => rfl
  | succ n ih => rw [List.replicate_succ, List.flatten_cons, ih, List.replicate_succ]; rfl
theorem bin_mulL {X : Cx} {d : Dr} {n : Int} (hn : n ≤ 10000) (hn0 : -10000 ≤ n) : Bin X .Mult (L1 d) (.int n) (W (List.replicate n.toNat d)) := by
  have h := bin_mulS (X := X) (l := [d.code]) (n := n) (by simp) hn hn0
  rw [rep1] at h
  unfold W cps
  rw [List.map_replicate]
  exact h
theorem abs_eq (x : Int) : (if x < 0 then -x else x).toNat = x.natAbs := by split <;> omega
theorem goAll_app (p : Pt) (a b : Wk) : goAll p (a ++ b) = goAll (goAll p a) b := List.foldl_append ..
theorem goAll_rep (d : Dr) : ∀ (n : Nat) (p : Pt), goAll p (List.replicate n d) = (p.1 + n * d.dx, p.2 + n * d.dy)
  | 0, p => by simp [goAll]
  | n + 1, p => by
    rw [List.replicate_succ]
    show goAll (go p d) (List.replicate n d) = _
    rw [goAll_rep d n]
    simp only [go]
    have e : ∀ x y : Int, x + y + (n : Int) * y = x + ((n + 1 : Nat) : Int) * y := fun x y => by
      rw [Int.natCast_add, Int.add_mul]
      omega
    exact Prod.ext (e _ _) (e _ _)
theorem goAll_homeX (p : Pt) : goAll p (homeX p.1) = (0, p.2) := by
  unfold homeX
  rw [goAll_rep]
  refine Prod.ext ?_ ?_
  · show p.1 + _ = 0
    split <;> simp [Dr.dx] <;> omega
  · show p.2 + _ = p.2
    split <;> simp [Dr.dy]
theorem goAll_homeY (p : Pt) : goAll p (homeY p.2) = (p.1, 0) := by
  unfold homeY
  rw [goAll_rep]
  refine Prod.ext ?_ ?_
  · show p.1 + _ = p.1
    split <;> simp [Dr.dx]
  · show p.2 + _ = 0
    split <;> simp [Dr.dy] <;> omega
theorem closed_end (ns : List Int) : goAll (0, 0) (closedW ns) = (0, 0) := by
  unfold closedW
  split
  · rw [goAll_app, goAll_app, goAll_homeY]
    exact goAll_homeX ((goAll (0, 0) (lawW ns)).1, 0)
  · rw [goAll_app, goAll_app, goAll_homeX]
    exact goAll_homeY (0, (goAll (0, 0) (lawW ns)).2)
theorem cnt_sum : ∀ (w : Wk), cnt .n w + cnt .w w + cnt .s w + cnt .e w = w.length
  | [] => rfl
  | d :: r => by
    have ih := cnt_sum r
    unfold cnt at *
    cases d <;> simp [List.filter_cons] <;> omega
theorem end_small (w : Wk) : (goAll (0, 0) w).1.natAbs + (goAll (0, 0) w).2.natAbs ≤ w.length := by
  rw [goAll_end]
  have := cnt_sum w
  simp only
  omega
theorem closed_len (ns : List Int) : (closedW ns).length ≤ 2 * ns.length := by
  have h := end_small (lawW ns)
  rw [lawW_len] at h
  unfold closedW homeX homeY
  split <;> simp [lawW_len] <;> omega
section
variable {P : Program} {w : World} {K : PySem.W.Frag} {mg : Str → Option Value} {base : Heap}
end
def dvD (d : Dr) : PyData := .tuple [.int d.dx, .int d.dy]
def kdv : List (Str × PyData) := [(Str.ofString "n", .tuple [.int 0, .int 1]), (Str.ofString "e", .tuple [.int 1, .int 0]), (Str.ofString "s", .tuple [.int 0, .int (-1)]), (Str.ofString "w", .tuple [.int (-1), .int 0])]
theorem lookup_dv (d : Dr) : kdv.lookup (SX.S [d.code]) = some (dvD d) := by cases d <;> rfl
section
variable {P : Program} {w : World} {K : PySem.W.Frag} {mg : Str → Option Value} {base : Heap}
end
/-! ### plain facts of walks -/
theorem turnD_congr {k j : Int} (h : k % 4 = j % 4) (d : Dr) : turnD k d = turnD j d := by
  unfold turnD
  have : ((d.ix : Int) + k) % 4 = ((d.ix : Int) + j) % 4 := by omega
  rw [this]
theorem turnD_mod (k : Int) : turnD (k % 4) = turnD k := funext fun d => turnD_congr (by omega) d
theorem mod4 (k : Int) : k % 4 = 0 ∨ k % 4 = 1 ∨ k % 4 = 2 ∨ k % 4 = 3 := by omega
theorem turnD_inv (k : Int) (d : Dr) : turnD (-k) (turnD k d) = d := by
  rcases mod4 k with h | h | h | h
  · rw [turnD_congr (j := 0) (by omega), turnD_congr (k := k) (j := 0) (by omega)]; cases d <;> rfl
  · rw [turnD_congr (j := 3) (by omega), turnD_congr (k := k) (j := 1) (by omega)]; cases d <;> rfl
  · rw [turnD_congr (j := 2) (by omega), turnD_congr (k := k) (j := 2) (by omega)]; cases d <;> rfl
  · rw [turnD_congr (j := 1) (by omega), turnD_congr (k := k) (j := 3) (by omega)]; cases d <;> rfl
theorem map_turn_inv (k : Int) (v : Wk) : (v.map (turnD k)).map (turnD (-k)) = v := by
  rw [List.map_map]
  have : turnD (-k) ∘ turnD k = id := funext fun d => turnD_inv k d
  rw [this, List.map_id]
def rotP (k : Int) (p : Pt) : Pt := match (k % 4).toNat with
  | 0 => p
  | 1 => (-p.2, p.1)
  | 2 => (-p.1, -p.2)
  | _ => (p.2, -p.1)
theorem rotP_congr {k j : Int} (h : k % 4 = j % 4) (p : Pt) : rotP k p = rotP j p := by
  unfold rotP
  rw [h]
theorem go_rot4 (k : Int) (h : k = 0 ∨ k = 1 ∨ k = 2 ∨ k = 3) (p : Pt) (d : Dr) : go (rotP k p) (turnD k d) = rotP k (go p d) := by
  rcases h with rfl | rfl | rfl | rfl <;> cases d <;> (refine Prod.ext ?_ ?_ <;> simp [go, rotP, turnD, Dr.ix, Dr.of, Dr.dx, Dr.dy] <;> omega)
theorem go_rot (k : Int) (p : Pt) (d : Dr) : go (rotP k p) (turnD k d) = rotP k (go p d) := by
  rw [← turnD_mod k, rotP_congr (k := k) (j := k % 4) (by omega), rotP_congr (k := k) (j := k % 4) (by omega)]
  exact go_rot4 _ (mod4 k) p d
theorem goAll_rot (k : Int) : ∀ (v : Wk) (p : Pt), goAll (rotP k p) (v.map (turnD k)) = rotP k (goAll p v)
  | [], p => rfl
  | d :: v, p => by
    show goAll (go (rotP k p) (turnD k d)) (v.map (turnD k)) = rotP k (goAll (go p d) v)
    rw [go_rot]
    exact goAll_rot k v (go p d)
theorem rotP_zero (k : Int) : rotP k (0, 0) = (0, 0) := by
  rw [rotP_congr (j := k % 4) (by omega)]
  rcases mod4 k with h | h | h | h <;> rw [h] <;> rfl
theorem goAll_rot0 (k : Int) (v : Wk) : goAll (0, 0) (v.map (turnD k)) = rotP k (goAll (0, 0) v) := by
  have := goAll_rot k v (0, 0)
  rwa [rotP_zero] at this
theorem backW_cons (d : Dr) (v : Wk) : backW (d :: v) = backW v ++ [turnD 2 d] := by simp [backW]
theorem go_opp (p : Pt) (d : Dr) : go (go p d) (turnD 2 d) = p := by
  cases d <;> (refine Prod.ext ?_ ?_ <;> simp [go, turnD, Dr.ix, Dr.of, Dr.dx, Dr.dy] <;> omega)
theorem goAll_back : ∀ (v : Wk) (p : Pt), goAll p (v ++ backW v) = p
  | [], p => rfl
  | d :: v, p => by
    rw [backW_cons]
    show goAll (go p d) (v ++ (backW v ++ [turnD 2 d])) = p
    rw [← List.append_assoc, goAll_app, goAll_back v (go p d)]
    exact go_opp p d
theorem backW_back (v : Wk) : backW (backW v) = v := by
  unfold backW
  rw [← List.map_reverse, List.reverse_reverse]
  exact map_turn_inv 2 v |> fun h => by
    have e : turnD (-2) = turnD 2 := funext fun d => turnD_congr (by decide) d
    rwa [e] at h
theorem backW_len (v : Wk) : (backW v).length = v.length := by simp [backW]
theorem mir_mir (v : Wk) : (v.map mir).map mir = v := by
  rw [List.map_map]
  have : mir ∘ mir = id := funext fun d => by cases d <;> rfl
  rw [this, List.map_id]
theorem rotW_len (v : Wk) (k : Int) : (rotW v k).length = v.length := by
  unfold rotW
  rw [List.length_append, List.length_drop, List.length_take]
  omega
theorem rotW_at (v : Wk) (k : Int) (i : Nat) (hi : i < v.length) : atI v (((i : Int) + k) % (v.length : Int)) = some ((rotW v k).getD i .n) := by
  have hl : (0 : Int) < v.length := by omega
  have h1 : 0 ≤ k % (v.length : Int) := Int.emod_nonneg _ (by omega)
  have h2 : k % (v.length : Int) < v.length := Int.emod_lt_of_pos _ hl
  obtain ⟨m, hm⟩ : ∃ m : Nat, k % (v.length : Int) = (m : Int) := ⟨_, (Int.toNat_of_nonneg h1).symm⟩
  have e : ((i : Int) + k) % (v.length : Int) = ((i : Int) + m) % (v.length : Int) := by
    rw [← hm, Int.add_emod_emod]
  rw [e]
  unfold rotW
  rw [hm, Int.toNat_natCast]
  have hm2 : m < v.length := by omega
  by_cases h : i + m < v.length
  · have e2 : ((i : Int) + m) % (v.length : Int) = ((i + m : Nat) : Int) := by
      rw [Int.emod_eq_of_lt (by omega) (by omega)]
      omega
    rw [e2, atI_nat, List.getD_eq_getElem?_getD, List.getElem?_append_left (by rw [List.length_drop]; omega), List.getElem?_drop, show m + i = i + m by omega, List.getElem?_eq_getElem h]
    exact List.getElem?_eq_getElem h
  · have e2 : ((i : Int) + m) % (v.length : Int) = ((i + m - v.length : Nat) : Int) := by
      have : ((i : Int) + m) = ((i + m - v.length : Nat) : Int) + v.length := by omega
      rw [this, Int.add_emod_right, Int.emod_eq_of_lt (by omega) (by omega)]
    have hlt : i + m - v.length < v.length := by omega
    rw [e2, atI_nat, List.getD_eq_getElem?_getD, List.getElem?_append_right (by rw [List.length_drop]; omega), List.length_drop, List.getElem?_take_of_lt (by omega), show i - (v.length - m) = i + m - v.length by omega, List.getElem?_eq_getElem hlt]
    exact List.getElem?_eq_getElem hlt
/-! tests that are known -/
section
variable {X : Cx} {env : En} {a b : Expr} {pos : Pos}
theorem ew_oF {rest : List Expr} (h1 : EvT X env a false) (h2 : EvW X env (.BoolOp .Or (b :: rest) pos) false) : EvW X env (.BoolOp .Or (a :: b :: rest) pos) false := ew_or (y := false) h1 fun _ => h2
theorem et_neF {x y : PyData} (ha : Ev X env a x) (hb : Ev X env b y) (hxy : x = y) (hs : Cmp X .NotEq x x false) (hm : behindInMarks .NotEq b = false := by exact nomark _) : EvT X env (.Compare a [.NotEq] [b] pos) false := by
  subst hxy
  exact et_cmp ha hb hs hm
theorem ev_eqT {x y : PyData} (ha : Ev X env a x) (hb : Ev X env b y) (hxy : x = y) (hs : Cmp X .Eq x x true) (hm : behindInMarks .Eq b = false := by exact nomark _) : Ev X env (.Compare a [.Eq] [b] pos) (.bool true) := by
  subst hxy
  exact ev_cmp ha hb hs hm
theorem et_notT {e : Expr} (h : EvT X env e true) : EvT X env (.UnaryOp .Not e pos) false := et_not h
theorem et_notV {e : Expr} (h : Ev X env e (.bool true)) (he : ∀ whole, isTrue e X.env whole = (do let v ← whole; standAt e.pos; holding [v] (truthy v)) := by intro _; rfl) : EvT X env (.UnaryOp .Not e pos) false := et_not (z := true) (et_val h he)
theorem ev_aT {rest : List Expr} {y : PyData} (h1 : Ev X env a (.bool true)) (h2 : Ev X env (.BoolOp .And (b :: rest) pos) y) : Ev X env (.BoolOp .And (a :: b :: rest) pos) y := ev_and (x := true) h1 fun _ => h2
theorem neW {w : Wk} : Cmp X .NotEq (W w) (W w) false := by
  have := cmp_neW (X := X) (a := w) (b := w)
  simpa using this
theorem eqW {w : Wk} : Cmp X .Eq (W w) (W w) true := by
  have := cmp_eqW (X := X) (a := w) (b := w)
  simpa using this
theorem neD {d : PyData} {k : Nat} (hr : Room k X.A) (h : pl 9 d = true) : Cmp X .NotEq d d false := cmp_neD (b := true) hr h h (by simp)
theorem eqD {d : PyData} {k : Nat} (hr : Room k X.A) (h : pl 9 d = true) : Cmp X .Eq d d true := cmp_eqD (b := true) hr h h (by simp)
end
theorem pl_pts (ps : List Pt) : pl 9 (.list (ps.map ptD)) = true := by
  show pls 8 (ps.map ptD) = true
  exact pls_map fun p => rfl
theorem pls0_last (v : Wk) : atI ((pls0 v).map ptD) (-1) = some (ptD (goAll (0, 0) v)) := atI_neg1 _ _ (by
  rw [List.getLast?_map]
  unfold pls0
  rw [walkFrom_last]
  rfl)
theorem pls0_len (v : Wk) : (pls0 v).length = v.length + 1 := walkFrom_len v _
local macro_rules | `(tactic| walk_at "ix") => `(tactic| first | exact ix_lett | exact ix_nesw)
local macro_rules | `(tactic| walk_at "le") => `(tactic| repeat first | exact .nil | refine .keep rfl ?_ | refine .skip ?_)
/-! ### thinning; the area by steps to the north and the south -/
def opp (d : Dr) : Dr := turnD 2 d
theorem opp_opp (d : Dr) : opp (opp d) = d := by cases d <;> rfl
theorem opp_iff {a b : Dr} : a = opp b ↔ b = opp a := ⟨fun h => by rw [h, opp_opp], fun h => by rw [h, opp_opp]⟩
/-- top first -/
def pushT (st : Wk) (d : Dr) : Wk := match st with
  | [] => [d]
  | t :: r => if t = opp d then r else d :: t :: r
/-- bottom first -/
def pushE (st : Wk) (d : Dr) : Wk := if st.getLast? = some (opp d) then st.dropLast else st ++ [d]
def thin (v : Wk) : Wk := v.foldl pushE []
theorem pushE_eq (st : Wk) (d : Dr) : pushE st d = (pushT st.reverse d).reverse := by
  rcases List.eq_nil_or_concat st with rfl | ⟨s, t, rfl⟩
  · rfl
  · unfold pushE
    rw [List.concat_eq_append, List.getLast?_append, List.reverse_append]
    show (if some t = some (opp d) then (s ++ [t]).dropLast else s ++ [t] ++ [d]) = (if t = opp d then s.reverse else d :: t :: s.reverse).reverse
    by_cases h : t = opp d
    · rw [if_pos h, if_pos (by rw [h]), List.dropLast_concat, List.reverse_reverse]
    · rw [if_neg h, if_neg (fun z => h (Option.some.inj z))]
      simp
theorem foldE_eq : ∀ (v st : Wk), v.foldl pushE st = (v.foldl pushT st.reverse).reverse
  | [], st => by simp
  | d :: v, st => by
    rw [List.foldl_cons, List.foldl_cons, foldE_eq v, pushE_eq, List.reverse_reverse]
theorem thin_eq (v : Wk) : thin v = (v.foldl pushT []).reverse := foldE_eq v []
def RedL (l : Wk) : Prop := ∀ (a b : Dr) (u w : Wk), l = u ++ a :: b :: w → b ≠ opp a
theorem RedL.nil : RedL [] := fun a b u w h => by cases u <;> cases h
theorem RedL.one (d : Dr) : RedL [d] := fun a b u w h => by
  cases u with
  | nil => cases h
  | cons c u =>
    injection h with _ h
    cases u <;> cases h
theorem RedL.tail {t : Dr} {r : Wk} (h : RedL (t :: r)) : RedL r := fun a b u w e => h a b (t :: u) w (by rw [e]; rfl)
theorem RedL.cons {t d : Dr} {r : Wk} (h : RedL (t :: r)) (n : t ≠ opp d) : RedL (d :: t :: r) := fun a b u w e => by
  cases u with
  | nil =>
    injection e with e1 e2
    injection e2 with e2 e3
    subst e1 e2
    exact n
  | cons c u =>
    injection e with _ e
    exact h a b u w e
theorem RedL.rev {l : Wk} (h : RedL l) : RedL l.reverse := fun a b u w e => by
  have e2 : l = w.reverse ++ b :: a :: u.reverse := by
    have := congrArg List.reverse e
    rw [List.reverse_reverse] at this
    rw [this]
    simp
  have := h b a _ _ e2
  exact fun z => this (opp_iff.mp z)
theorem RedL.push {s : Wk} (h : RedL s) (d : Dr) : RedL (pushT s d) := by
  cases s with
  | nil => exact .one d
  | cons t r =>
    show RedL (if t = opp d then r else d :: t :: r)
    split
    · exact h.tail
    · exact h.cons (by assumption)
theorem push_opp {s : Wk} (h : RedL s) (d : Dr) : pushT (pushT s d) (opp d) = s := by
  cases s with
  | nil =>
    show (if d = opp (opp d) then [] else _) = []
    rw [if_pos (opp_opp d).symm]
  | cons t r =>
    show pushT (if t = opp d then r else d :: t :: r) (opp d) = t :: r
    by_cases e : t = opp d
    · rw [if_pos e]
      cases r with
      | nil => rw [e]; rfl
      | cons u r =>
        have := h t u [] r rfl
        show (if u = opp (opp d) then r else opp d :: u :: r) = _
        rw [if_neg (by rw [← e]; exact this), e]
    · rw [if_neg e]
      show (if d = opp (opp d) then t :: r else _) = _
      rw [if_pos (opp_opp d).symm]
theorem push_opp' {s : Wk} (h : RedL s) (d : Dr) : pushT (pushT s (opp d)) d = s := by
  have := push_opp h (opp d)
  rwa [opp_opp] at this
def NN (X : Wk) (v : Wk) : Wk := v.foldr (fun d s => pushT s d) X
theorem NN_red {X : Wk} (h : RedL X) : ∀ v : Wk, RedL (NN X v)
  | [] => h
  | d :: v => (NN_red h v).push d
theorem NN_app (X a b : Wk) : NN X (a ++ b) = NN (NN X b) a := List.foldr_append ..
theorem NN_push {X : Wk} (h : RedL X) (st : Wk) (d : Dr) : NN X (pushT st d).reverse = NN (pushT X d) st.reverse := by
  cases st with
  | nil => rfl
  | cons t r =>
    show NN X (if t = opp d then r else d :: t :: r).reverse = NN (pushT X d) (t :: r).reverse
    rw [List.reverse_cons, NN_app]
    by_cases e : t = opp d
    · rw [if_pos e]
      show _ = NN (pushT (pushT X d) t) r.reverse
      rw [e, push_opp h]
    · rw [if_neg e, List.reverse_cons, NN_app, List.reverse_cons, NN_app]
      rfl
theorem NN_fold {X : Wk} (h : RedL X) : ∀ (v st : Wk), NN X (v.foldl pushT st).reverse = NN (NN X v) st.reverse
  | [], st => rfl
  | d :: v, st => by
    rw [List.foldl_cons, NN_fold h v, NN_push (NN_red h v)]
    rfl
theorem NN_thin {X : Wk} (h : RedL X) (v : Wk) : NN X (thin v) = NN X v := by
  rw [thin_eq, NN_fold h]
  rfl
theorem NN_self : ∀ {w : Wk}, RedL w → NN [] w = w
  | [], _ => rfl
  | [d], _ => rfl
  | d :: t :: r, h => by
    show pushT (NN [] (t :: r)) d = _
    rw [NN_self h.tail]
    show (if t = opp d then r else d :: t :: r) = _
    rw [if_neg (h d t [] r rfl)]
theorem fold_red : ∀ (v st : Wk), RedL st → RedL (v.foldl pushT st)
  | [], _, h => h
  | d :: v, st, h => fold_red v _ (h.push d)
theorem thin_red (v : Wk) : RedL (thin v) := by
  rw [thin_eq]
  exact (fold_red v [] .nil).rev
theorem thin_NN (v : Wk) : thin v = NN [] v := by
  rw [← NN_thin .nil v, NN_self (thin_red v)]
/-- from the last step on -/
theorem thin_law (v : Wk) : (thin v.reverse).reverse = thin v := by
  rw [thin_eq, List.reverse_reverse, thin_NN, NN, List.foldl_reverse]
theorem thin_thin (v : Wk) : thin (thin v) = thin v := by rw [thin_NN (thin v), NN_self (thin_red v)]
theorem NN_back {X : Wk} (h : RedL X) : ∀ v : Wk, NN X (v ++ backW v) = X
  | [] => rfl
  | d :: v => by
    rw [backW_cons]
    show pushT (NN X (v ++ (backW v ++ [opp d]))) d = X
    rw [← List.append_assoc, NN_app]
    show pushT (NN (pushT X (opp d)) (v ++ backW v)) d = X
    rw [NN_back (h.push _) v]
    exact push_opp' h d
theorem thin_back (v : Wk) : thin (v ++ backW v) = [] := by rw [thin_NN, NN_back .nil]
theorem thin_there (u v : Wk) : thin (u ++ backW u ++ v) = thin v := by rw [thin_NN, NN_app, NN_back (NN_red .nil v), thin_NN]
theorem pushE_len (st : Wk) (d : Dr) : (pushE st d).length ≤ st.length + 1 := by
  unfold pushE
  split
  · rw [List.length_dropLast]; omega
  · rw [List.length_append]; exact Nat.le_refl _
theorem fold_len : ∀ (v st : Wk), (v.foldl pushE st).length ≤ st.length + v.length
  | [], st => Nat.le_refl _
  | d :: v, st => by
    have h1 := fold_len v (pushE st d)
    have h2 := pushE_len st d
    rw [List.foldl_cons, List.length_cons]
    omega
theorem thin_len (v : Wk) : (thin v).length ≤ v.length := by
  have := fold_len v []
  rw [List.length_nil, Nat.zero_add] at this
  exact this
theorem goAll_push (p : Pt) (st : Wk) (d : Dr) : goAll p (pushE st d) = go (goAll p st) d := by
  unfold pushE
  split
  · rename_i h
    obtain ⟨s, rfl⟩ := List.getLast?_eq_some_iff.mp h
    rw [List.dropLast_concat, goAll_app]
    show _ = go (go (goAll p s) (opp d)) d
    have := go_opp (goAll p s) (opp d)
    rw [show turnD 2 (opp d) = d from opp_opp d] at this
    exact this.symm
  · rw [goAll_app]
    rfl
def areaW (p : Pt) : Wk → Int
  | [] => 0
  | d :: w => p.1 * d.dy + areaW (go p d) w
theorem areaW_app : ∀ (a b : Wk) (p : Pt), areaW p (a ++ b) = areaW p a + areaW (goAll p a) b
  | [], b, p => by simp [areaW, goAll]
  | d :: a, b, p => by
    show p.1 * d.dy + areaW (go p d) (a ++ b) = p.1 * d.dy + areaW (go p d) a + areaW (goAll (go p d) a) b
    rw [areaW_app a b]
    omega
theorem areaW_snoc (a : Wk) (d : Dr) (p : Pt) : areaW p (a ++ [d]) = areaW p a + (goAll p a).1 * d.dy := by
  rw [areaW_app]
  simp [areaW]
theorem areaW_push (p : Pt) (st : Wk) (d : Dr) : areaW p (pushE st d) = areaW p st + (goAll p st).1 * d.dy := by
  unfold pushE
  split
  · rename_i h
    obtain ⟨s, rfl⟩ := List.getLast?_eq_some_iff.mp h
    rw [List.dropLast_concat, areaW_snoc, goAll_app]
    show _ = _ + (goAll p s).1 * (opp d).dy + (go (goAll p s) (opp d)).1 * d.dy
    generalize goAll p s = q
    cases d <;> simp [opp, turnD, Dr.ix, Dr.of, Dr.dx, Dr.dy, go] <;> omega
  · exact areaW_snoc _ _ _
theorem fold_end (p : Pt) : ∀ (v st : Wk), goAll p (v.foldl pushE st) = goAll (goAll p st) v ∧ areaW p (v.foldl pushE st) = areaW p st + areaW (goAll p st) v
  | [], st => by simp [goAll, areaW]
  | d :: v, st => by
    have h := fold_end p v (pushE st d)
    rw [List.foldl_cons]
    refine ⟨?_, ?_⟩
    · rw [h.1, goAll_push]
      rfl
    · rw [h.2, areaW_push, goAll_push]
      show _ = areaW p st + ((goAll p st).1 * d.dy + areaW (go (goAll p st) d) v)
      omega
theorem thin_end (p : Pt) (v : Wk) : goAll p (thin v) = goAll p v := (fold_end p v []).1
theorem thin_area (p : Pt) (v : Wk) : areaW p (thin v) = areaW p v := by
  have := (fold_end p v []).2
  rw [show areaW p [] = 0 from rfl, show goAll p [] = p from rfl, Int.zero_add] at this
  exact this
/-- by cross products -/
def crossW (p : Pt) : Wk → Int
  | [] => 0
  | d :: w => (p.1 * (go p d).2 - (go p d).1 * p.2) + crossW (go p d) w
theorem crossW_app : ∀ (a b : Wk) (p : Pt), crossW p (a ++ b) = crossW p a + crossW (goAll p a) b
  | [], b, p => by simp [crossW, goAll]
  | d :: a, b, p => by
    show _ + crossW (go p d) (a ++ b) = _ + crossW (go p d) a + crossW (goAll (go p d) a) b
    rw [crossW_app a b]
    omega
theorem crossW_eq : ∀ (w : Wk) (p : Pt), crossW p w = 2 * areaW p w - ((goAll p w).1 * (goAll p w).2 - p.1 * p.2)
  | [], p => by simp [crossW, areaW, goAll]
  | d :: w, p => by
    show p.1 * (p.2 + d.dy) - (p.1 + d.dx) * p.2 + crossW (go p d) w = 2 * (p.1 * d.dy + areaW (go p d) w) - ((goAll (go p d) w).1 * (goAll (go p d) w).2 - p.1 * p.2)
    rw [crossW_eq w (go p d)]
    show _ + (2 * areaW (go p d) w - ((goAll (go p d) w).1 * (goAll (go p d) w).2 - (p.1 + d.dx) * (p.2 + d.dy))) = _
    have : d.dx * d.dy = 0 := by cases d <;> rfl
    have e1 : p.1 * (p.2 + d.dy) = p.1 * p.2 + p.1 * d.dy := Int.mul_add ..
    have e2 : (p.1 + d.dx) * p.2 = p.1 * p.2 + d.dx * p.2 := Int.add_mul ..
    have e3 : (p.1 + d.dx) * (p.2 + d.dy) = p.1 * p.2 + d.dx * p.2 + (p.1 * d.dy + d.dx * d.dy) := by rw [Int.mul_add, Int.add_mul, Int.add_mul]
    rw [e1, e2, e3, this]
    omega
theorem cross_closed {w : Wk} {p : Pt} (h : goAll p w = p) : crossW p w = 2 * areaW p w := by
  rw [crossW_eq, h]
  omega
theorem cross_half {w : Wk} (h : goAll (0, 0) w = (0, 0)) : crossW (0, 0) w / 2 = areaW (0, 0) w := by
  rw [cross_closed h]
  omega
theorem call_anyNo {X : Cx} {n : Nat} (hc : X.calm = true) : CallD X (.builtin "any") [.list (((List.range n).map fun _ => false).map PyData.bool)] (.bool false) := by
  have h := call_anyB (X := X) (bs := (List.range n).map fun _ => false) hc
  have e : ((List.range n).map fun _ => false).any id = false := by simp
  rwa [e] at h
theorem call_allYes {X : Cx} {n : Nat} (hc : X.calm = true) : CallD X (.builtin "all") [.list (((List.range n).map fun _ => true).map PyData.bool)] (.bool true) := by
  have h := call_allB (X := X) (bs := (List.range n).map fun _ => true) hc
  have e : ((List.range n).map fun _ => true).all id = true := by simp
  rwa [e] at h
/-- the ways meet -/
theorem run_join2 {X : Cx} {H0 : Hp} {env : En} {D : Ends} {rest : List Stmt} {st : Stmt} {α : Type} (E : α → En) (ok : α → Prop) (body : (∀ u, ok u → Run X H0 (E u) rest D) → Run X H0 env (st :: rest) D) (tail : ∀ u, ok u → Run X H0 (E u) rest D) : Run X H0 env (st :: rest) D := body tail
theorem areaW_back : ∀ (v : Wk) (p : Pt), areaW (goAll p v) (backW v) = - areaW p v
  | [], p => rfl
  | d :: v, p => by
    rw [backW_cons]
    show areaW (goAll (go p d) v) (backW v ++ [turnD 2 d]) = - (p.1 * d.dy + areaW (go p d) v)
    rw [areaW_snoc, areaW_back v]
    have h : goAll (goAll (go p d) v) (backW v) = go p d := by
      have := goAll_back v (go p d)
      rwa [goAll_app] at this
    rw [h]
    cases d <;> simp [turnD, Dr.ix, Dr.of, Dr.dx, Dr.dy, go] <;> omega
/-! ### thinned, area -/
def RThin : List PyData → PyData → Prop := fun ds r => ∃ v : Wk, v.length ≤ 9000 ∧ ds = [W v] ∧ r = W (thin v)
def RArea : List PyData → PyData → Prop := fun ds r => ∃ v : Wk, v.length ≤ 9000 ∧ ds = [W v] ∧ r = .int (areaW (0, 0) v)
def RAreaC : List PyData → PyData → Prop := fun ds r => ∃ v : Wk, v.length ≤ 9000 ∧ goAll (0, 0) v = (0, 0) ∧ ds = [W v] ∧ r = .int (areaW (0, 0) v)
theorem pl_L1s (st : Wk) : pl 9 (.list (st.map L1)) = true := pls_map (n := 8) fun d => by cases d <;> decide +kernel
theorem atI_lastW {st : Wk} {t : Dr} (h : st.getLast? = some t) : atI (st.map L1) (-1) = some (L1 t) := atI_neg1 _ _ (by rw [List.getLast?_map, h]; rfl)
theorem cmp_eqLW {X : Cx} {a d : Dr} : Cmp X .Eq (L1 a) (W [d]) (decide (a = d)) := cmp_eqL
theorem nil_iff {st : Wk} {b : Bool} (h : b = decide (st = [])) : b = true ↔ PyData.list (st.map L1) = .list [] := by
  subst h
  rw [decide_eq_true_iff]
  constructor
  · intro h; rw [h]; rfl
  · intro h
    injection h with h
    exact List.map_eq_nil_iff.mp h
theorem pushE_true {st : Wk} {d : Dr} (h : st.getLast? = some (opp d)) : pushE st d = st.dropLast := if_pos h
theorem pushE_false {st : Wk} {d : Dr} (h : ¬ st.getLast? = some (opp d)) : pushE st d = st ++ [d] := if_neg h
theorem thin_snoc (v : Wk) (i : Nat) (h : i < v.length) : thin (v.take (i + 1)) = pushE (thin (v.take i)) (v.getD i .n) := by
  rw [take_getD v .n i h]
  unfold thin
  rw [List.foldl_append]
  rfl
theorem ex_last {st : Wk} (h : st ≠ []) : ∃ t, st.getLast? = some t := ⟨_, List.getLast?_eq_some_getLast h⟩
section
variable {X : Cx} {env : En} {pos : Pos} {e e2 : Expr} {l1 : Expr} {rest : List Expr}
/-- found != [] and found[-1] == turned(letter, 2) -/
theorem et_top {st : Wk} {d : Dr} {k : Nat} {f i o : Expr} {p1 p2 : Pos} (hr : Room k X.A) (hf : Ev X env f (.list (st.map L1))) (hi : st ≠ [] → Ev X env i (.list (st.map L1)) ∧ Ev X env o (W [opp d])) {x1 : Nat} {p3 p4 p5 p6 : Pos} :
    EvT X env (.BoolOp .And [.Compare f [.NotEq] [.List [] p1] p2, .Compare (.Subscript i (.UnaryOp .USub (.Constant (.int 1) x1 p3) p4) p5) [.Eq] [o] p6] pos) (decide (st.getLast? = some (opp d))) := by
  by_cases h : st = []
  · subst h
    refine EvT.is (et_w (ew_and (x := !true) (y := false) (et_cmp hf (EvL.d (evl_lst ea_nil)) (cmp_neD (b := true) hr (pl_L1s _) rfl (nil_iff (by simp))) (nomark _)) fun z => by cases z)) (by rw [List.getLast?_nil]; rfl)
  · obtain ⟨t, ht⟩ := ex_last h
    obtain ⟨hi, ho⟩ := hi h
    refine EvT.is (et_w (ew_and (x := !false) (et_cmp hf (EvL.d (evl_lst ea_nil)) (cmp_neD (b := false) hr (pl_L1s _) rfl (nil_iff (by rw [decide_eq_false h]))) (nomark _)) fun _ => ew_and1 (et_cmp (ev_ix hi (ev_un ev_int un_negI) (ix_L (atI_lastW ht))) ho cmp_eqLW (nomark _)))) (by rw [ht]; simp)
end
section
variable {P : Program} {w : World} {K : PySem.W.Frag} {mg : Str → Option Value} {base : Heap}
end
theorem its_zipP {X : Cx} {H0 : Hp} {env : En} {e e2 : Expr} {elts : List Expr} {kk : Nat} {p pos tpos : Pos} {v : Wk} (hg : Gl X "zip") (hm : X.mg "zip" = none) (he : EvL X env e ((pls0 v).map ptD)) (he2 : Ev X env e2 (W v))
    (hs : starEach [e, e2] X.env = (false, eval e X.env) :: starEach [e2] X.env := by rfl) (hs2 : starEach [e2] X.env = (false, eval e2 X.env) :: starEach [] X.env := by rfl) (hpl : (backTo pos (starEach [e2] X.env)).any (·.1) = false := by rfl) :
    ItS X H0 env (.Tuple elts kk tpos) (.Call (.Name "zip" p) [e, e2] [] pos) v.length (fun i => .tuple [.tuple [.int (goAll (0, 0) (v.take i)).1, .int (goAll (0, 0) (v.take i)).2], L1 (v.getD i .n)]) := by
  have h := its_zipS (H0 := H0) (elts := elts) (kk := kk) (tpos := tpos) (p := p) hg hm he he2 (fzs_map fun p => rfl) hs hs2 hpl
  rw [List.length_map, pls0_len, cps_len, Nat.min_eq_right (by omega)] at h
  refine h.congr fun i hi => ?_
  rw [cps_getD v i hi]
  have e1 : ((pls0 v).map ptD).getD i .none = ptD (goAll (0, 0) (v.take i)) := by
    unfold pls0
    rw [List.getD_eq_getElem?_getD, List.getElem?_map, walkFrom_get v (0, 0) i (by omega)]
    rfl
  rw [e1]
  rfl
theorem areaW_take (v : Wk) (i : Nat) (h : i < v.length) : areaW (0, 0) (v.take (i + 1)) = areaW (0, 0) (v.take i) + (goAll (0, 0) (v.take i)).1 * (v.getD i .n).dy := by rw [take_getD v .n i h, areaW_snoc]
theorem crossW_take (v : Wk) (i : Nat) (h : i < v.length) : crossW (0, 0) (v.take (i + 1)) = crossW (0, 0) (v.take i) + ((goAll (0, 0) (v.take i)).1 * (goAll (0, 0) (v.take (i + 1))).2 - (goAll (0, 0) (v.take (i + 1))).1 * (goAll (0, 0) (v.take i)).2) := by
  rw [take_getD v .n i h, crossW_app, goAll_app]
  simp [crossW, goAll]
theorem pls0_at (v : Wk) (i : Nat) (h : i ≤ v.length) : atI ((pls0 v).map ptD) (i : Int) = some (ptD (goAll (0, 0) (v.take i))) := by
  refine atI_nat ?_
  unfold pls0
  rw [List.getElem?_map, walkFrom_get v (0, 0) i h]
  rfl
theorem take_small (v : Wk) (i : Nat) : (goAll (0, 0) (v.take i)).1.natAbs + (goAll (0, 0) (v.take i)).2.natAbs ≤ v.length := by
  have h := end_small (v.take i)
  rw [List.length_take] at h
  omega
section
variable {P : Program} {w : World} {K : PySem.W.Frag} {mg : Str → Option Value} {base : Heap}
theorem ok_area_of (F : Df K mg "area_of" s_area_of ["walk"]) (hb : Blt mg) (c1 : Cd P w K mg base 2 "walked" (spL K RWalked)) : Cd P w K mg base 3 "area_of" (spD K RArea) := by
  refine cdD F sc_area_of (fun ds r ⟨_, _, e, _⟩ => by rw [e]; rfl) fun f cdv A outer s H E hr nd ds r D ⟨v, hv, e1, e2⟩ hD hN => ?_
  subst e1 e2
  refine run_env (e' := [some (.d (W v)), none, none, none, none]) rfl ?_
  refine rs_F (d := .int 0) rfl nd (.inl rfl) (by walk_at "ev") rfl ?_
  refine rs_for21 (n := v.length) (u := fun i => .int (goAll (0, 0) (v.take i)).1) (v := fun i => .int (goAll (0, 0) (v.take i)).2) (w := fun i => L1 (v.getD i .n)) (fun i => [some (.d (W v)), some (.d (.int (areaW (0, 0) (v.take i)))), none, none, none]) rfl rfl rfl nd (.inl rfl) (.inl rfl) (.inl rfl) PassesOwn.never (its_zipP rfl hb.zip (by walk_at "el") (by walk_at "ev")) (by walk_at "le") (fun i _ => ⟨rfl, rfl, rfl⟩) (fun i Hl D' hi hs hn hrt => ?_) ?_
  · have e1 := areaW_take v i hi
    generalize v.getD i .n = d at *
    generalize areaW (0, 0) (v.take i) = a at *
    generalize goAll (0, 0) (v.take i) = p at *
    refine run_if (z := decide (d = .n)) (by walk_at "et") (fun z => ?_) (fun z => ?_)
    · refine rs_F (d := .int (a + p.1)) rfl nd (.inl rfl) (by walk_at "ev") rfl (run_nx (run_turn hn ?_))
      have e := ofT z
      subst e
      rw [e1, show p.1 * Dr.n.dy = p.1 from Int.mul_one _]
      walk_at "le"
    · refine run_if (z := decide (d = .s)) (by walk_at "et") (fun z2 => ?_) (fun z2 => ?_)
      · refine rs_F (d := .int (a - p.1)) rfl nd (.inl rfl) (by walk_at "ev") rfl (run_nx (run_nx (run_turn hn ?_)))
        have e := ofT z2
        subst e
        rw [e1, show a + p.1 * Dr.s.dy = a - p.1 by simp only [Dr.dy]; omega]
        walk_at "le"
      · refine run_nx (run_nx (run_turn hn ?_))
        have e : d.dy = 0 := by cases d <;> first | rfl | (revert z z2; decide)
        rw [e1, e, Int.mul_zero, Int.add_zero]
        walk_at "le"
  · rw [List.take_length]
    exact run_ret (by walk_at "ev") hD
theorem ok_area (F : Df K mg "area" s_area ["walk"]) (c1 : Cd P w K mg base 3 "asked_closed" (spD K RAskC)) (c2 : Cd P w K mg base 3 "area_of" (spD K RArea)) : Cd P w K mg base 4 "area" (spD K RAreaC) := by
  refine cdD F sc_area (fun ds r ⟨_, _, _, e, _⟩ => by rw [e]; rfl) fun f cdv A outer s H E hr nd ds r D ⟨v, hv, hc, e1, e2⟩ hD hN => ?_
  subst e1 e2
  refine run_env (e' := [some (.d (W v))]) rfl ?_
  refine run_expr (d := .none) (ev_call c1 hr (by decide) rfl (ea_cons (by walk_at "ev") ea_nil) ⟨v, hv, hc, rfl, rfl⟩) ?_
  exact run_ret (by walk_at "ev") hD
end
/-! ### crossings, squares -/
abbrev Cr := List (Pt × Int)
def dget (D : Cr) (k : Pt) : Int := ((D.find? fun e => decide (e.1 = k)).map (·.2)).getD 0
def dput (D : Cr) (k : Pt) (v : Int) : Cr := if (D.any fun e => decide (e.1 = k)) = true then D.map (fun e => if e.1 = k then (e.1, v) else e) else D ++ [(k, v)]
def K2 (p : Pt) : List Key := [.inl p.1, .inl p.2]
def encD (D : Cr) : List (List Key × PyData) := D.map fun e => (K2 e.1, .int e.2)
theorem K2_inj {p q : Pt} : K2 p = K2 q ↔ p = q := by
  constructor
  · intro h
    unfold K2 at h
    injection h with h1 h2
    injection h2 with h2 _
    exact Prod.ext (Sum.inl.inj h1) (Sum.inl.inj h2)
  · intro h; rw [h]
theorem kD_K2 (p : Pt) : kD (K2 p) = ptD p := rfl
theorem mval_enc (k : Pt) : ∀ D : Cr, mval (encD D) (K2 k) = (D.find? fun e => decide (e.1 = k)).map fun e => PyData.int e.2
  | [] => rfl
  | e :: D => by
    unfold mval encD
    rw [List.map_cons]
    by_cases h : e.1 = k
    · rw [List.find?_cons_of_pos (by simp [h]), List.find?_cons_of_pos (by simp [h])]
      rfl
    · rw [List.find?_cons_of_neg (by simpa [K2_inj] using h), List.find?_cons_of_neg (by simpa using h)]
      exact mval_enc k D
theorem mget_enc (D : Cr) (k : Pt) : (mval (encD D) (K2 k)).getD (.int 0) = .int (dget D k) := by
  rw [mval_enc]
  unfold dget
  cases D.find? fun e => decide (e.1 = k) <;> rfl
theorem mput_enc (D : Cr) (k : Pt) (v : Int) : mput (encD D) (K2 k) (.int v) = encD (dput D k v) := by
  unfold mput dput encD
  have e1 : (List.map (fun e : Pt × Int => (K2 e.1, PyData.int e.2)) D).any (fun kv => decide (kv.1 = K2 k)) = D.any fun e => decide (e.1 = k) := by
    rw [List.any_map]
    congr 1
    funext e
    simp [K2_inj]
  rw [e1]
  split
  · rw [List.map_map, List.map_map]
    apply List.map_congr_left
    intro e _
    simp only [Function.comp]
    by_cases h : e.1 = k
    · rw [if_pos (by rw [h]), if_pos h]
    · rw [if_neg (by rw [K2_inj]; exact h), if_neg h]
  · rw [List.map_append]
    rfl
theorem dget_put (k : Pt) (v : Int) : ∀ (D : Cr) (q : Pt), dget (dput D k v) q = if q = k then v else dget D q := by
  have rep : ∀ (D : Cr) (q : Pt), (D.map fun e => if e.1 = k then (e.1, v) else e).find? (fun e => decide (e.1 = q)) = (D.find? fun e => decide (e.1 = q)).map fun e => if e.1 = k then (e.1, v) else e := by
    intro D q
    induction D with
    | nil => rfl
    | cons e D ih =>
      rw [List.map_cons]
      have h1 : (if e.1 = k then (e.1, v) else e).1 = e.1 := by split <;> rfl
      by_cases h : e.1 = q
      · rw [List.find?_cons_of_pos (by rw [h1]; simpa using h), List.find?_cons_of_pos (by simpa using h)]
        rfl
      · rw [List.find?_cons_of_neg (by rw [h1]; simpa using h), List.find?_cons_of_neg (by simpa using h), ih]
  intro D q
  unfold dput
  split
  · rename_i hany
    unfold dget
    rw [rep]
    by_cases hq : q = k
    · subst hq
      rw [if_pos rfl]
      rw [List.any_eq_true] at hany
      obtain ⟨e, he, h1⟩ := hany
      cases hf : D.find? fun e => decide (e.1 = q) with
      | none =>
        rw [List.find?_eq_none] at hf
        exact absurd h1 (hf e he)
      | some e' =>
        have := List.find?_some hf
        simp at this
        simp [this]
    · rw [if_neg hq]
      cases hf : D.find? fun e => decide (e.1 = q) with
      | none => rfl
      | some e' =>
        have := List.find?_some hf
        simp at this
        have hne : ¬ e'.1 = k := fun z => hq (by rw [← this, z])
        simp [hne]
  · rename_i hany
    have hn : D.find? (fun e => decide (e.1 = k)) = none := by
      rw [List.find?_eq_none]
      intro e he h
      exact hany (List.any_eq_true.mpr ⟨e, he, h⟩)
    unfold dget
    rw [List.find?_append]
    by_cases hq : q = k
    · subst hq
      rw [if_pos rfl, hn]
      simp
    · rw [if_neg hq]
      cases hf : D.find? fun e => decide (e.1 = q) with
      | none =>
        have e : decide (k = q) = false := decide_eq_false fun z => hq z.symm
        simp [List.find?_cons, e]
      | some e' => rfl
def keys (D : Cr) : List Pt := D.map (·.1)
theorem keys_put (D : Cr) (k : Pt) (v : Int) : keys (dput D k v) = if k ∈ keys D then keys D else keys D ++ [k] := by
  unfold dput keys
  by_cases h : k ∈ D.map (·.1)
  · rw [if_pos h]
    obtain ⟨e, he, h1⟩ := List.mem_map.mp h
    rw [if_pos (List.any_eq_true.mpr ⟨e, he, by simpa using h1⟩), List.map_map]
    apply List.map_congr_left
    intro e _
    simp only [Function.comp]
    split <;> rfl
  · rw [if_neg h, if_neg (fun z => ?_), List.map_append]
    · rfl
    · obtain ⟨e, he, h1⟩ := List.any_eq_true.mp z
      exact h (List.mem_map.mpr ⟨e, he, by simpa using h1⟩)
theorem keys_nd {D : Cr} (h : (keys D).Nodup) (k : Pt) (v : Int) : (keys (dput D k v)).Nodup := by
  rw [keys_put]
  split
  · exact h
  · rename_i hk
    exact List.nodup_append.mpr ⟨h, by simp, fun a ha b hb => by
      rw [List.mem_singleton] at hb
      subst hb
      exact fun z => hk (z ▸ ha)⟩
/-- where a step crosses, and how -/
def ckey (p : Pt) : Dr → Option (Pt × Int)
  | .n => some ((p.2, p.1), 1)
  | .s => some ((p.2 - 1, p.1), -1)
  | _ => none
def crStep (D : Cr) (p : Pt) (d : Dr) : Cr := match ckey p d with
  | some (k, v) => dput D k (dget D k + v)
  | none => D
def cr (D : Cr) (p : Pt) : Wk → Cr
  | [] => D
  | d :: w => cr (crStep D p d) (go p d) w
theorem cr_snoc (d : Dr) : ∀ (w : Wk) (D : Cr) (p : Pt), cr D p (w ++ [d]) = crStep (cr D p w) (goAll p w) d
  | [], D, p => rfl
  | c :: w, D, p => cr_snoc d w (crStep D p c) (go p c)
/-- the steps' sum of a weight of crossings -/
def ss (g : Pt → Int) (p : Pt) : Wk → Int
  | [] => 0
  | d :: w => (match ckey p d with | some (k, v) => v * g k | none => 0) + ss g (go p d) w
theorem ss_snoc (g : Pt → Int) (d : Dr) : ∀ (w : Wk) (p : Pt), ss g p (w ++ [d]) = ss g p w + (match ckey (goAll p w) d with | some (k, v) => v * g k | none => 0)
  | [], p => by
    show _ + 0 = 0 + _
    rw [Int.add_zero, Int.zero_add]
    rfl
  | c :: w, p => by
    show _ + ss g (go p c) (w ++ [d]) = _ + ss g (go p c) w + _
    rw [ss_snoc g d w, Int.add_assoc]
    rfl
theorem dget_cr (k : Pt) : ∀ (w : Wk) (D : Cr) (p : Pt), dget (cr D p w) k = dget D k + ss (fun q => if q = k then 1 else 0) p w
  | [], D, p => (Int.add_zero _).symm
  | d :: w, D, p => by
    show dget (cr (crStep D p d) (go p d) w) k = dget D k + (_ + _)
    rw [dget_cr k w]
    unfold crStep
    cases h : ckey p d with
    | none => simp
    | some e =>
      obtain ⟨q, v⟩ := e
      simp only
      rw [dget_put]
      by_cases hk : k = q
      · subst hk
        simp
        omega
      · rw [if_neg hk, if_neg (fun z => hk z.symm)]
        omega
theorem keys_cr : ∀ (w : Wk) (D : Cr) (p : Pt), (keys D).Nodup → (keys (cr D p w)).Nodup
  | [], _, _, h => h
  | d :: w, D, p, h => by
    refine keys_cr w _ _ ?_
    unfold crStep
    cases ckey p d with
    | none => exact h
    | some e => exact keys_nd h _ _
theorem cr_len : ∀ (w : Wk) (D : Cr) (p : Pt), (cr D p w).length ≤ D.length + w.length
  | [], _, _ => Nat.le_refl _
  | d :: w, D, p => by
    have h := cr_len w (crStep D p d) (go p d)
    have h2 : (crStep D p d).length ≤ D.length + 1 := by
      unfold crStep
      cases ckey p d with
      | none => exact Nat.le_succ _
      | some e =>
        simp only [dput]
        split
        · rw [List.length_map]; exact Nat.le_succ _
        · rw [List.length_append]; exact Nat.le_refl _
    show (cr (crStep D p d) (go p d) w).length ≤ _
    rw [List.length_cons]
    omega
/-- all that a walk crosses -/
def touch (p : Pt) : Wk → List Pt
  | [] => []
  | d :: w => (match ckey p d with | some (k, _) => [k] | none => []) ++ touch (go p d) w
theorem mem_cr (k : Pt) : ∀ (w : Wk) (D : Cr) (p : Pt), k ∈ keys (cr D p w) ↔ k ∈ keys D ∨ k ∈ touch p w
  | [], D, p => by simp [cr, touch]
  | d :: w, D, p => by
    show k ∈ keys (cr (crStep D p d) (go p d) w) ↔ k ∈ keys D ∨ k ∈ _ ++ touch (go p d) w
    rw [mem_cr k w, List.mem_append]
    unfold crStep
    cases h : ckey p d with
    | none => simp
    | some e =>
      obtain ⟨q, v⟩ := e
      simp only
      rw [keys_put]
      by_cases hq : q ∈ keys D
      · rw [if_pos hq]
        constructor
        · rintro (h | h)
          · exact .inl h
          · exact .inr (.inr h)
        · rintro (h | h | h)
          · exact .inl h
          · rw [List.mem_singleton] at h
            subst h
            exact .inl hq
          · exact .inr h
      · rw [if_neg hq, List.mem_append]
        constructor
        · rintro ((h | h) | h)
          · exact .inl h
          · exact .inr (.inl h)
          · exact .inr (.inr h)
        · rintro (h | h | h)
          · exact .inl (.inl h)
          · exact .inl (.inr h)
          · exact .inr h
theorem isum_add {α : Type} (f g : α → Int) : ∀ l : List α, (l.map fun x => f x + g x).sum = (l.map f).sum + (l.map g).sum
  | [] => rfl
  | x :: l => by
    rw [List.map_cons, List.sum_cons, List.map_cons, List.sum_cons, List.map_cons, List.sum_cons, isum_add f g l]
    omega
theorem isum_zero {α : Type} {f : α → Int} : ∀ {l : List α}, (∀ x ∈ l, f x = 0) → (l.map f).sum = 0
  | [], _ => rfl
  | x :: l, h => by
    rw [List.map_cons, List.sum_cons, h x (List.mem_cons_self ..), isum_zero fun y hy => h y (List.mem_cons_of_mem _ hy)]
    rfl
theorem isum_one {f : Pt → Int} {k : Pt} : ∀ {l : List Pt}, l.Nodup → k ∈ l → (l.map fun q => if q = k then f q else 0).sum = f k
  | x :: l, nd, hm => by
    rw [List.nodup_cons] at nd
    rw [List.map_cons, List.sum_cons]
    rcases List.mem_cons.mp hm with h | h
    · subst h
      have h0 : (l.map fun q => if q = k then f q else 0).sum = 0 := isum_zero fun y hy => if_neg (by intro z; rw [z] at hy; exact nd.1 hy)
      rw [if_pos rfl, h0, Int.add_zero]
    · have hx : ¬ x = k := by intro z; rw [z] at nd; exact nd.1 h
      rw [if_neg hx, isum_one nd.2 h, Int.zero_add]
/-- the crossings' weighted sum is the steps' -/
theorem ss_keys (g : Pt → Int) {R : List Pt} (nd : R.Nodup) : ∀ (w : Wk) (p : Pt), (∀ k ∈ touch p w, k ∈ R) → (R.map fun k => ss (fun q => if q = k then 1 else 0) p w * g k).sum = ss g p w
  | [], p, _ => isum_zero fun x _ => Int.zero_mul _
  | d :: w, p, h => by
    have ih := ss_keys g nd w (go p d) fun k hk => h k (List.mem_append_right _ hk)
    have e1 : (fun k => ss (fun q => if q = k then 1 else 0) p (d :: w) * g k) = fun k => (match ckey p d with | some (q, v) => v * (if q = k then 1 else 0) | none => 0) * g k + ss (fun q => if q = k then 1 else 0) (go p d) w * g k := by
      funext k
      rw [← Int.add_mul]
      rfl
    rw [e1, isum_add, ih]
    show _ = _ + ss g (go p d) w
    congr 1
    cases hk : ckey p d with
    | none => exact isum_zero fun x _ => Int.zero_mul _
    | some e =>
      obtain ⟨q, v⟩ := e
      have hq : q ∈ R := h q (by
        show q ∈ _ ++ _
        rw [hk]
        exact List.mem_append_left _ (List.mem_singleton.mpr rfl))
      have e2 : (fun k => v * (if q = k then (1 : Int) else 0) * g k) = fun k => if k = q then v * g k else 0 := by
        funext k
        by_cases z : k = q
        · subst z
          rw [if_pos rfl, if_pos rfl, Int.mul_one]
        · rw [if_neg (fun y => z y.symm), if_neg z, Int.mul_zero, Int.zero_mul]
      simp only
      rw [e2]
      exact isum_one (f := fun k => v * g k) nd hq
theorem ss_area : ∀ (w : Wk) (p : Pt), ss (fun k => k.2) p w = areaW p w
  | [], _ => rfl
  | d :: w, p => by
    show _ + ss _ (go p d) w = p.1 * d.dy + areaW (go p d) w
    rw [ss_area w]
    cases d <;> simp [ckey, Dr.dy]
/-- how often the square at column c, row y is gone around -/
def wn (p : Pt) (w : Wk) (c y : Int) : Int := ss (fun k => if k.1 = y ∧ c < k.2 then 1 else 0) p w
def rowS (p : Pt) (w : Wk) (y : Int) : Int := ss (fun k => if k.1 = y then 1 else 0) p w
def ind (b : Bool) : Int := if b then 1 else 0
theorem rowS_eq (y : Int) : ∀ (w : Wk) (p : Pt), rowS p w y = (if y < (goAll p w).2 then 1 else 0) - (if y < p.2 then 1 else 0)
  | [], p => by
    show (0 : Int) = (if y < p.2 then 1 else 0) - (if y < p.2 then 1 else 0)
    omega
  | d :: w, p => by
    show _ + rowS (go p d) w y = (if y < (goAll (go p d) w).2 then 1 else 0) - _
    rw [rowS_eq y w]
    have : (match ckey p d with | some (k, v) => v * (if k.1 = y then (1 : Int) else 0) | none => 0) = (if y < (go p d).2 then 1 else 0) - (if y < p.2 then 1 else 0) := by
      cases d <;> simp only [ckey, go, Dr.dy, Int.one_mul, Int.neg_mul] <;> first | omega | (split <;> first | omega | (rw [Int.neg_zero]; omega))
    rw [this]
    omega
/-- .. by crossings to the north -/
def wvS (p : Pt) (d : Dr) (c y : Int) : Int := match d with
  | .w => if y < p.2 ∧ p.1 - 1 = c then 1 else 0
  | .e => if y < p.2 ∧ p.1 = c then -1 else 0
  | _ => 0
def wv (p : Pt) (w : Wk) (c y : Int) : Int := match w with
  | [] => 0
  | d :: w => wvS p d c y + wv (go p d) w c y
def wnS (p : Pt) (d : Dr) (c y : Int) : Int := match ckey p d with
  | some (k, v) => v * (if k.1 = y ∧ c < k.2 then 1 else 0)
  | none => 0
theorem wn_cons (p : Pt) (d : Dr) (w : Wk) (c y : Int) : wn p (d :: w) c y = wnS p d c y + wn (go p d) w c y := rfl
theorem wv_cons (p : Pt) (d : Dr) (w : Wk) (c y : Int) : wv p (d :: w) c y = wvS p d c y + wv (go p d) w c y := rfl
theorem wn_wv (c y : Int) : ∀ (w : Wk) (p : Pt), wn p w c y - wv p w c y = (if c < (goAll p w).1 ∧ y < (goAll p w).2 then 1 else 0) - (if c < p.1 ∧ y < p.2 then 1 else 0)
  | [], p => by
    show (0 : Int) - 0 = (if c < p.1 ∧ y < p.2 then 1 else 0) - (if c < p.1 ∧ y < p.2 then 1 else 0)
    omega
  | d :: w, p => by
    have ih := wn_wv c y w (go p d)
    rw [wn_cons, wv_cons]
    have key : wnS p d c y - wvS p d c y = (if c < (go p d).1 ∧ y < (go p d).2 then 1 else 0) - (if c < p.1 ∧ y < p.2 then 1 else 0) := by
      unfold wnS wvS
      cases d <;> simp only [ckey, go, Dr.dx, Dr.dy, Int.one_mul, Int.neg_mul] <;> omega
    have e : goAll p (d :: w) = goAll (go p d) w := rfl
    rw [e]
    omega
theorem wn_closed {w : Wk} {p : Pt} (h : goAll p w = p) (c y : Int) : wn p w c y = wv p w c y := by
  have := wn_wv c y w p
  rw [h] at this
  omega
theorem rowS_closed {w : Wk} {p : Pt} (h : goAll p w = p) (y : Int) : rowS p w y = 0 := by
  have := rowS_eq y w p
  rw [h] at this
  omega
/-! ### the squares, row by row -/
theorem dataLt_pt (p q : Pt) : PySem.W.dataLt (ptD p) (ptD q) = decide (ltP2 p q) := by
  unfold PySem.W.dataLt ptD ltP2
  simp only [PySem.W.keyToks, PySem.W.keyToksAll, PyProof.Rows.lexLt, PyProof.Rows.itemLt, List.append_nil, List.cons_append, List.nil_append, List.singleton_append]
  by_cases h1 : p.1 < q.1
  · simp [h1]
  · by_cases h2 : q.1 < p.1
    · have h3 : ¬ p.1 = q.1 := by omega
      simp [h1, h2, h3]
    · have h3 : p.1 = q.1 := by omega
      simp [h3]
theorem ltP2_trans {a b c : Pt} (h1 : ltP2 a b) (h2 : ltP2 b c) : ltP2 a c := by
  unfold ltP2 at *
  omega
theorem ltP2_irr (a : Pt) : ¬ ltP2 a a := by
  unfold ltP2
  omega
theorem ltP2_tri {a b : Pt} (h : ¬ a = b) : ltP2 a b ∨ ltP2 b a := by
  have h' : ¬ (a.1 = b.1 ∧ a.2 = b.2) := fun z => h (Prod.ext z.1 z.2)
  unfold ltP2
  omega
def encLe {α : Type} (enc : α → PyData) (a b : α) : Bool := PySem.W.dataLe false id (enc a) (enc b)
theorem encLe_eq {α : Type} (enc : α → PyData) (a b : α) : encLe enc a b = !PySem.W.dataLt (enc b) (enc a) := rfl
noncomputable def srtBy {α : Type} (enc : α → PyData) (l : List α) : List α := l.mergeSort (encLe enc)
theorem srt_by {α : Type} (enc : α → PyData) (l : List α) : srt (l.map enc) = (srtBy enc l).map enc := (List.map_mergeSort (r := encLe enc) (s := PySem.W.dataLe false id) (f := enc) (l := l) (fun _ _ _ _ => rfl)).symm
theorem srtBy_perm {α : Type} (enc : α → PyData) (l : List α) : (srtBy enc l).Perm l := List.mergeSort_perm ..
theorem srtBy_sorted {α : Type} (enc : α → PyData) (l : List α) : (srtBy enc l).Pairwise fun a b => PySem.W.dataLt (enc b) (enc a) = false := by
  have T := PySem.W.sortLe_total (PyProof.Rows.listOrd PyProof.Rows.itemOrd) false (fun a : α => PySem.W.keyToks (enc a))
  have h := List.pairwise_mergeSort (le := encLe enc) (fun a b c => T.trans a b c) (fun a b => Bool.or_eq_true_iff.mpr (T.total a b)) l
  refine h.imp fun {a b} hab => ?_
  rw [encLe_eq] at hab
  simpa using hab
/-- the keys of pairs, sorted -/
noncomputable def srtP (l : List Pt) : List Pt := srtBy ptD l
theorem srtP_lt {l : List Pt} (nd : l.Nodup) : (srtP l).Pairwise ltP2 := by
  have h := srtBy_sorted ptD l
  have nd2 : (srtBy ptD l).Nodup := (srtBy_perm ptD l).nodup_iff.mpr nd
  refine (h.and nd2).imp fun {a b} hab => ?_
  obtain ⟨h1, h2⟩ := hab
  rw [dataLt_pt] at h1
  rcases ltP2_tri h2 with h | h
  · exact h
  · exact absurd h (of_decide_eq_false h1)
def sumf (f : Pt → Int) (L : List Pt) : Int := (L.map f).sum
theorem sumf_cons (f : Pt → Int) (k : Pt) (L : List Pt) : sumf f (k :: L) = f k + sumf f L := by
  unfold sumf
  rw [List.map_cons, List.sum_cons]
def nxt (rest : List Pt) : Pt := rest.headD (0, 0)
def seg (k : Pt) (rest : List Pt) (t : Int) : List (Pt × Int) := if t = 0 then [] else (List.range ((nxt rest).2 - k.2).toNat).map fun (i : Nat) => ((k.2 + (i : Int), k.1), t)
def sqA (f : Pt → Int) : List Pt → Int → List (Pt × Int)
  | [], _ => []
  | k :: rest, t => seg k rest (t - f k) ++ sqA f rest (t - f k)
/-- a row goes on where something is left -/
def Nx (f : Pt → Int) (L : List Pt) : Prop := ∀ pre k rest, L = pre ++ k :: rest → sumf f rest ≠ 0 → ∃ k' r, rest = k' :: r ∧ k'.1 = k.1 ∧ k.2 < k'.2
theorem Nx.tail {f : Pt → Int} {k : Pt} {L : List Pt} (h : Nx f (k :: L)) : Nx f L := fun pre q rest e => h (k :: pre) q rest (by rw [e]; rfl)
theorem mem_sqA {f : Pt → Int} (e : Pt × Int) : ∀ {L : List Pt}, e ∈ sqA f L (sumf f L) ↔ ∃ pre k rest, L = pre ++ k :: rest ∧ e ∈ seg k rest (sumf f rest)
  | [] => by
    constructor
    · intro h; cases h
    · rintro ⟨pre, k, rest, h, _⟩
      cases pre <;> cases h
  | k :: L => by
    have e1 : sumf f (k :: L) - f k = sumf f L := by rw [sumf_cons]; omega
    show e ∈ seg k L (sumf f (k :: L) - f k) ++ sqA f L (sumf f (k :: L) - f k) ↔ _
    rw [e1, List.mem_append, mem_sqA e]
    constructor
    · rintro (h | ⟨pre, q, rest, h, h2⟩)
      · exact ⟨[], k, L, rfl, h⟩
      · exact ⟨k :: pre, q, rest, by rw [h]; rfl, h2⟩
    · rintro ⟨pre, q, rest, h, h2⟩
      cases pre with
      | nil =>
        injection h with h3 h4
        subst h3 h4
        exact .inl h2
      | cons c pre =>
        injection h with h3 h4
        exact .inr ⟨pre, q, rest, h4, h2⟩
theorem mem_seg {k : Pt} {rest : List Pt} {t : Int} {e : Pt × Int} : e ∈ seg k rest t ↔ t ≠ 0 ∧ e.2 = t ∧ e.1.2 = k.1 ∧ k.2 ≤ e.1.1 ∧ e.1.1 < (nxt rest).2 := by
  unfold seg
  by_cases h : t = 0
  · rw [if_pos h]
    constructor
    · intro z; cases z
    · intro z; exact absurd h z.1
  · rw [if_neg h, List.mem_map]
    constructor
    · rintro ⟨i, hi, rfl⟩
      rw [List.mem_range] at hi
      refine ⟨h, rfl, rfl, ?_, ?_⟩
      · show k.2 ≤ k.2 + (i : Int)
        omega
      · show k.2 + (i : Int) < _
        omega
    · rintro ⟨_, h1, h2, h3, h4⟩
      refine ⟨(e.1.1 - k.2).toNat, ?_, ?_⟩
      · rw [List.mem_range]
        omega
      · have : k.2 + (((e.1.1 - k.2).toNat : Nat) : Int) = e.1.1 := by omega
        rw [this, ← h1, ← h2]
theorem sqA_low {f : Pt → Int} {h : Pt} {L : List Pt} (hs : (h :: L).Pairwise ltP2) {e : Pt × Int} (he : e ∈ sqA f (h :: L) (sumf f (h :: L))) : ¬ ltP2 (e.1.2, e.1.1) h := by
  obtain ⟨pre, k, rest, e1, e2⟩ := (mem_sqA e).mp he
  obtain ⟨_, _, h2, h3, _⟩ := mem_seg.mp e2
  have hk : k = h ∨ ltP2 h k := by
    cases pre with
    | nil =>
      injection e1 with e3 e4
      exact .inl e3.symm
    | cons c pre =>
      injection e1 with e3 e4
      exact .inr ((List.pairwise_cons.mp hs).1 k (by rw [e4]; simp))
  intro z
  rcases hk with rfl | hk
  · unfold ltP2 at z
    simp only at z
    omega
  · unfold ltP2 at z hk
    simp only at z
    omega
theorem sqA_nd {f : Pt → Int} : ∀ {L : List Pt}, L.Pairwise ltP2 → Nx f L → ((sqA f L (sumf f L)).map (·.1)).Nodup
  | [], _, _ => List.nodup_nil
  | k :: L, hs, hn => by
    have e1 : sumf f (k :: L) - f k = sumf f L := by rw [sumf_cons]; omega
    show ((seg k L (sumf f (k :: L) - f k) ++ sqA f L (sumf f (k :: L) - f k)).map (·.1)).Nodup
    rw [e1, List.map_append]
    have ih := sqA_nd (List.pairwise_cons.mp hs).2 hn.tail
    refine List.nodup_append.mpr ⟨?_, ih, fun a ha b hb => ?_⟩
    · unfold seg
      split
      · exact List.nodup_nil
      · rw [List.map_map]
        refine List.Pairwise.map _ (fun i j hij => ?_) (List.nodup_range (n := ((nxt L).2 - k.2).toNat))
        intro z
        have z' : k.2 + (i : Int) = k.2 + (j : Int) := congrArg (fun p : Pt => p.1) z
        omega
    · obtain ⟨x, hx, rfl⟩ := List.mem_map.mp ha
      obtain ⟨y, hy, rfl⟩ := List.mem_map.mp hb
      obtain ⟨h0, _, h2, h3, h4⟩ := mem_seg.mp hx
      obtain ⟨k', r, e2, h5, h6⟩ := hn [] k L rfl h0
      subst e2
      have hlow := sqA_low (List.pairwise_cons.mp hs).2 hy
      intro z
      apply hlow
      rw [← z]
      unfold ltP2
      simp only
      exact .inr ⟨by rw [h2, h5], h4⟩
theorem sqA_sum {f : Pt → Int} : ∀ {L : List Pt}, Nx f L → (L.map fun k => f k * k.2).sum = ((sqA f L (sumf f L)).map (·.2)).sum + sumf f L * (nxt L).2
  | [], _ => by simp [sqA, sumf]
  | k :: L, hn => by
    have e1 : sumf f (k :: L) - f k = sumf f L := by rw [sumf_cons]; omega
    have ih := sqA_sum hn.tail
    show _ = ((seg k L (sumf f (k :: L) - f k) ++ sqA f L (sumf f (k :: L) - f k)).map (·.2)).sum + sumf f (k :: L) * k.2
    rw [e1, List.map_append, List.sum_append, List.map_cons, List.sum_cons, ih, sumf_cons, Int.add_mul]
    have hseg : ((seg k L (sumf f L)).map (·.2)).sum = sumf f L * (nxt L).2 - sumf f L * k.2 := by
      unfold seg
      split
      · rename_i h0
        rw [h0]
        simp
      · rename_i h0
        obtain ⟨k', r, e2, h5, h6⟩ := hn [] k L rfl h0
        rw [List.map_map]
        have e3 : ((fun x : Pt × Int => x.2) ∘ fun (i : Nat) => ((k.2 + (i : Int), k.1), sumf f L)) = fun _ => sumf f L := rfl
        rw [e3, List.map_const', List.length_range, ← Int.mul_sub]
        have key : ∀ (n : Nat) (c : Int), (List.replicate n c).sum = c * n := by
          intro n c
          induction n with
          | zero => simp
          | succ n ih => rw [List.replicate_succ, List.sum_cons, ih, Int.natCast_add, Int.mul_add]; omega
        rw [key]
        congr 1
        have : (nxt L) = k' := by rw [e2]; rfl
        rw [this]
        omega
    rw [hseg]
    omega
theorem sqA_len {f : Pt → Int} {B : Nat} : ∀ {L : List Pt} {t : Int}, (∀ k ∈ L, -(B : Int) ≤ k.2 ∧ k.2 ≤ B) → (sqA f L t).length ≤ L.length * (2 * B)
  | [], _, _ => Nat.zero_le _
  | k :: L, t, h => by
    show (seg k L (t - f k) ++ sqA f L (t - f k)).length ≤ _
    have ih := sqA_len (f := f) (B := B) (L := L) (t := t - f k) fun q hq => h q (List.mem_cons_of_mem _ hq)
    have hk := h k (List.mem_cons_self ..)
    have hnx : -(B : Int) ≤ (nxt L).2 ∧ (nxt L).2 ≤ B := by
      cases L with
      | nil =>
        show -(B : Int) ≤ 0 ∧ (0 : Int) ≤ B
        omega
      | cons q L => exact h q (List.mem_cons_of_mem _ (List.mem_cons_self ..))
    have hseg : (seg k L (t - f k)).length ≤ 2 * B := by
      unfold seg
      split
      · exact Nat.zero_le _
      · rw [List.length_map, List.length_range]
        omega
    rw [List.length_append, List.length_cons, Nat.add_mul]
    omega
/-! for a closed walk -/
theorem ss_above (y : Int) : ∀ (w : Wk) (p : Pt), ss (fun k => if y < k.1 then 1 else 0) p w = (if y < (goAll p w).2 then (goAll p w).2 - y - 1 else 0) - (if y < p.2 then p.2 - y - 1 else 0)
  | [], p => by
    show (0 : Int) = (if y < p.2 then p.2 - y - 1 else 0) - (if y < p.2 then p.2 - y - 1 else 0)
    omega
  | d :: w, p => by
    have ih := ss_above y w (go p d)
    have e : goAll p (d :: w) = goAll (go p d) w := rfl
    have e2 : ss (fun k => if y < k.1 then 1 else 0) p (d :: w) = (match ckey p d with | some (k, v) => v * (if y < k.1 then 1 else 0) | none => 0) + ss (fun k => if y < k.1 then 1 else 0) (go p d) w := rfl
    rw [e, e2, ih]
    have key : (match ckey p d with | some (k, v) => v * (if y < k.1 then (1 : Int) else 0) | none => 0) = (if y < (go p d).2 then (go p d).2 - y - 1 else 0) - (if y < p.2 then p.2 - y - 1 else 0) := by
      cases d <;> simp only [ckey, go, Dr.dy, Int.one_mul, Int.neg_mul] <;> first | omega | (split <;> first | omega | (rw [Int.neg_zero]; omega))
    rw [key]
    omega
theorem ss_one (p : Pt) : ∀ (w : Wk) (p : Pt), ss (fun _ => 1) p w = (goAll p w).2 - p.2
  | [], p => by
    show (0 : Int) = p.2 - p.2
    omega
  | d :: w, p => by
    have ih := ss_one p w (go p d)
    have e : goAll p (d :: w) = goAll (go p d) w := rfl
    have e2 : ss (fun _ => 1) p (d :: w) = (match ckey p d with | some (k, v) => v * 1 | none => 0) + ss (fun _ => 1) (go p d) w := rfl
    rw [e, e2, ih]
    cases d <;> simp only [ckey, go, Dr.dy, Int.mul_one] <;> omega
/-- the keys of a closed walk's crossings, sorted -/
structure Cl (w : Wk) (R : List Pt) : Prop where
  cl : goAll (0, 0) w = (0, 0)
  lt : R.Pairwise ltP2
  tc : ∀ k ∈ touch (0, 0) w, k ∈ R
def tk (w : Wk) (k : Pt) : Int := ss (fun q => if q = k then 1 else 0) (0, 0) w
section
variable {w : Wk} {R : List Pt}
theorem Cl.nd (h : Cl w R) : R.Nodup := h.lt.imp fun {a b} (hab : ltP2 a b) => by
  intro z
  subst z
  exact ltP2_irr _ hab
theorem Cl.ss (h : Cl w R) (g : Pt → Int) : (R.map fun k => tk w k * g k).sum = Sw.ss g (0, 0) w := ss_keys g h.nd w (0, 0) h.tc
theorem Cl.zero (h : Cl w R) : sumf (tk w) R = 0 := by
  have := h.ss fun _ => 1
  rw [ss_one (0, 0) w (0, 0), h.cl] at this
  unfold sumf
  simpa using this
theorem isum_congr {α : Type} {f g : α → Int} : ∀ {l : List α}, (∀ x ∈ l, f x = g x) → (l.map f).sum = (l.map g).sum
  | [], _ => rfl
  | x :: l, h => by
    rw [List.map_cons, List.sum_cons, List.map_cons, List.sum_cons, h x (List.mem_cons_self ..), isum_congr fun y hy => h y (List.mem_cons_of_mem _ hy)]
theorem Cl.rest (h : Cl w R) {pre rest : List Pt} {k : Pt} (e : R = pre ++ k :: rest) : sumf (tk w) rest = wn (0, 0) w k.2 k.1 := by
  have h1 := h.ss fun q => if ltP2 k q then 1 else 0
  have hlt := h.lt
  rw [e, List.pairwise_append] at hlt
  obtain ⟨_, h3, h4⟩ := hlt
  have h5 := (List.pairwise_cons.mp h3).1
  have e1 : (R.map fun q => tk w q * (if ltP2 k q then 1 else 0)).sum = sumf (tk w) rest := by
    rw [e, List.map_append, List.sum_append, List.map_cons, List.sum_cons, if_neg (ltP2_irr k), Int.mul_zero]
    have z1 : (pre.map fun q => tk w q * (if ltP2 k q then 1 else 0)).sum = 0 := isum_zero fun q hq => by
      rw [if_neg (fun z => ltP2_irr k (ltP2_trans z (h4 q hq k (List.mem_cons_self ..)))), Int.mul_zero]
    have z2 : (rest.map fun q => tk w q * (if ltP2 k q then 1 else 0)).sum = sumf (tk w) rest := isum_congr fun q hq => by
      rw [if_pos (h5 q hq), Int.mul_one]
    rw [z1, z2]
    omega
  rw [e1] at h1
  rw [h1]
  have e2 : Sw.ss (fun q => if ltP2 k q then 1 else 0) (0, 0) w = Sw.ss (fun q => if k.1 < q.1 then 1 else 0) (0, 0) w + wn (0, 0) w k.2 k.1 := by
    rw [← h.ss, ← h.ss]
    unfold wn
    rw [← h.ss, ← isum_add]
    refine isum_congr fun q _ => ?_
    rw [← Int.mul_add]
    congr 1
    unfold ltP2
    omega
  rw [e2, ss_above, h.cl]
  omega
theorem wn_pos (h : Cl w R) {c y : Int} (hn : wn (0, 0) w c y ≠ 0) : ∃ q ∈ R, q.1 = y ∧ c < q.2 := by
  refine Classical.byContradiction fun no => hn ?_
  have := h.ss fun k => if k.1 = y ∧ c < k.2 then 1 else 0
  unfold wn
  rw [← this]
  exact isum_zero fun q hq => by rw [if_neg (fun z => no ⟨q, hq, z⟩), Int.mul_zero]
theorem Cl.nx (h : Cl w R) : Nx (tk w) R := fun pre k rest e h0 => by
  rw [h.rest e] at h0
  obtain ⟨q, hq, h1, h2⟩ := wn_pos h h0
  have hlt := h.lt
  rw [e, List.pairwise_append] at hlt
  obtain ⟨_, h3, h4⟩ := hlt
  have h5 := List.pairwise_cons.mp h3
  have hr : q ∈ rest := by
    rw [e, List.mem_append, List.mem_cons] at hq
    rcases hq with hq | hq | hq
    · have := h4 q hq k (List.mem_cons_self ..)
      unfold ltP2 at this
      omega
    · subst hq
      omega
    · exact hq
  cases rest with
  | nil => cases hr
  | cons k' r =>
    have g1 := h5.1 k' (List.mem_cons_self ..)
    have g2 : k'.1 = k.1 := by
      rcases List.mem_cons.mp hr with z | z
      · rw [← z, h1]
      · have := (List.pairwise_cons.mp h5.2).1 q z
        unfold ltP2 at this g1
        omega
    refine ⟨k', r, rfl, g2, ?_⟩
    unfold ltP2 at g1
    omega
noncomputable def sqs (w : Wk) (R : List Pt) : List (Pt × Int) := sqA (tk w) R 0
theorem wn_congr (h : Cl w R) {c c' y : Int} (hc : ∀ q ∈ R, q.1 = y → (c < q.2 ↔ c' < q.2)) : wn (0, 0) w c y = wn (0, 0) w c' y := by
  unfold wn
  rw [← h.ss, ← h.ss]
  refine isum_congr fun q hq => ?_
  congr 1
  by_cases hy : q.1 = y
  · have := hc q hq hy
    by_cases h1 : c < q.2
    · rw [if_pos ⟨hy, h1⟩, if_pos ⟨hy, this.mp h1⟩]
    · rw [if_neg (fun z => h1 z.2), if_neg (fun z => h1 (this.mpr z.2))]
  · rw [if_neg (fun z => hy z.1), if_neg (fun z => hy z.1)]
theorem last_split {P : Pt → Prop} : ∀ {L : List Pt}, (∃ q ∈ L, P q) → ∃ pre k rest, L = pre ++ k :: rest ∧ P k ∧ ∀ q ∈ rest, ¬ P q
  | [], ⟨q, hq, _⟩ => by cases hq
  | x :: L, ⟨q, hq, hp⟩ => by
    by_cases hL : ∃ q ∈ L, P q
    · obtain ⟨pre, k, rest, e, h1, h2⟩ := last_split hL
      exact ⟨x :: pre, k, rest, by rw [e]; rfl, h1, h2⟩
    · rcases List.mem_cons.mp hq with z | z
      · subst z
        exact ⟨[], q, L, rfl, hp, fun r hr hpr => hL ⟨r, hr, hpr⟩⟩
      · exact absurd ⟨q, z, hp⟩ hL
/-- just the squares that are gone around, each with its times -/
theorem mem_sqs (h : Cl w R) (e : Pt × Int) : e ∈ sqs w R ↔ e.2 = wn (0, 0) w e.1.1 e.1.2 ∧ e.2 ≠ 0 := by
  have e0 : sqs w R = sqA (tk w) R (sumf (tk w) R) := by unfold sqs; rw [h.zero]
  rw [e0, mem_sqA]
  constructor
  · rintro ⟨pre, k, rest, e1, h1⟩
    obtain ⟨h0, h2, h3, h4, h5⟩ := mem_seg.mp h1
    obtain ⟨k', r, e2, h6, h7⟩ := h.nx pre k rest e1 h0
    have hn : nxt rest = k' := by rw [e2]; rfl
    rw [hn] at h5
    refine ⟨?_, by rw [h2]; exact h0⟩
    rw [h2, h.rest e1, h3]
    refine wn_congr h fun q hq hy => ?_
    have hlt := h.lt
    rw [e1, List.pairwise_append] at hlt
    obtain ⟨_, g3, g4⟩ := hlt
    have g5 := List.pairwise_cons.mp g3
    rw [e1, List.mem_append, List.mem_cons] at hq
    rcases hq with hq | hq | hq
    · have := g4 q hq k (List.mem_cons_self ..)
      unfold ltP2 at this
      omega
    · subst hq
      omega
    · have g6 := g5.1 q hq
      rw [e2] at hq g5
      rcases List.mem_cons.mp hq with z | z
      · subst z
        omega
      · have := (List.pairwise_cons.mp g5.2).1 q z
        unfold ltP2 at this
        omega
  · rintro ⟨h1, h2⟩
    obtain ⟨⟨c, y⟩, t⟩ := e
    simp only at h1 h2
    rw [h1] at h2
    have hex : ∃ q ∈ R, q.1 = y ∧ q.2 ≤ c := by
      refine Classical.byContradiction fun no => h2 ?_
      have hr : rowS (0, 0) w y = 0 := rowS_closed h.cl y
      unfold rowS at hr
      unfold wn
      rw [← h.ss] at hr ⊢
      refine Eq.trans (isum_congr fun q hq => ?_) hr
      congr 1
      by_cases hy : q.1 = y
      · have : c < q.2 := by
          refine Classical.byContradiction fun z => no ⟨q, hq, hy, by omega⟩
        rw [if_pos ⟨hy, this⟩, if_pos hy]
      · rw [if_neg (fun z => hy z.1), if_neg hy]
    obtain ⟨pre, k, rest, e1, ⟨hk1, hk2⟩, hk3⟩ := last_split hex
    have hlt := h.lt
    rw [e1, List.pairwise_append] at hlt
    obtain ⟨_, g3, g4⟩ := hlt
    have g5 := List.pairwise_cons.mp g3
    have hw : wn (0, 0) w k.2 y = wn (0, 0) w c y := wn_congr h fun q hq hy => by
      constructor
      · intro z
        rw [e1, List.mem_append, List.mem_cons] at hq
        rcases hq with hq | hq | hq
        · have := g4 q hq k (List.mem_cons_self ..)
          unfold ltP2 at this
          omega
        · subst hq
          omega
        · have := hk3 q hq
          refine Classical.byContradiction fun z2 => this ⟨hy, by omega⟩
      · intro z
        omega
    have hs := h.rest e1
    rw [hk1, hw] at hs
    obtain ⟨k', r, e2, h6, h7⟩ := h.nx pre k rest e1 (by rw [hs]; exact h2)
    refine ⟨pre, k, rest, e1, mem_seg.mpr ⟨by rw [hs]; exact h2, by rw [hs]; exact h1, hk1.symm, hk2, ?_⟩⟩
    have hn : nxt rest = k' := by rw [e2]; rfl
    rw [hn]
    have := hk3 k' (by rw [e2]; exact List.mem_cons_self ..)
    show c < k'.2
    refine Classical.byContradiction fun z => this ⟨by rw [h6, hk1], by omega⟩
theorem sqs_nd (h : Cl w R) : ((sqs w R).map (·.1)).Nodup := by
  have e0 : sqs w R = sqA (tk w) R (sumf (tk w) R) := by unfold sqs; rw [h.zero]
  rw [e0]
  exact sqA_nd h.lt h.nx
theorem sqs_sum (h : Cl w R) : ((sqs w R).map (·.2)).sum = areaW (0, 0) w := by
  have e0 : sqs w R = sqA (tk w) R (sumf (tk w) R) := by unfold sqs; rw [h.zero]
  have h1 := sqA_sum h.nx
  have h2 := h.ss fun k => k.2
  rw [← ss_area, ← h2, e0, h1, h.zero]
  omega
end
end Sw

namespace Sw
open PySem PySem.Spec PyProof.Rows L2
local macro_rules | `(tactic| walk_at "vis") => `(tactic| first | exact .inl rfl | exact .inr (.inl rfl) | exact .inr (.inr rfl))
local macro_rules | `(tactic| walk_at "loc") => `(tactic| first | exact .inl rfl | exact .inr rfl)
local macro_rules | `(tactic| walk_at "str") => `(tactic| first | with_reducible exact s_ | with_reducible exact s_n | with_reducible exact s_w | with_reducible exact s_s | with_reducible exact s_e | with_reducible exact s_ns | with_reducible exact s_nwse | with_reducible exact s_nesw)
local macro_rules | `(tactic| walk_at "len") => `(tactic| first | omega | (simp; done) | (simp; omega))
local macro_rules | `(tactic| walk_at "bin") => `(tactic| first | with_reducible exact bin_addI | with_reducible exact bin_subI | with_reducible exact bin_modI (by omega) | with_reducible exact bin_addW (by walk_at "len"))
local macro_rules | `(tactic| walk_at "cmp") => `(tactic| first | with_reducible exact cmp_eqI | with_reducible exact cmp_neI | with_reducible exact cmp_eqW | with_reducible exact cmp_neW | with_reducible exact cmp_eqLn | with_reducible exact cmp_eqLw | with_reducible exact cmp_eqLs | with_reducible exact cmp_eqLe | with_reducible exact cmp_neLn | with_reducible exact cmp_neLw | with_reducible exact cmp_neLs | with_reducible exact cmp_neLe | with_reducible exact cmp_eqW0 | with_reducible exact cmp_neW0 | with_reducible exact cmp_eqL | with_reducible exact cmp_neL | with_reducible exact cmp_eqS | with_reducible exact cmp_neS | with_reducible exact cmp_ltI | with_reducible exact cmp_leI | with_reducible exact cmp_gtI | with_reducible exact cmp_geI | with_reducible exact cmp_inL | with_reducible exact cmp_inS)
local macro_rules | `(tactic| walk_at "mark") => `(tactic| first | exact nomark _ | rfl)
local macro_rules | `(tactic| walk_at "ea") => `(tactic| first | with_reducible exact ea_nil | (refine' ea_cons ?e ?r; (case e => walk_at "ev"); (case r => walk_at "ea")))
local macro_rules | `(tactic| walk_at "el") => `(tactic| first
  | (refine' evl_call (by assumption) (by assumption) (by decide) rfl ?a ?r; (case a => walk_at "ea"); (case r => walk_at "rel"))
  | (refine' evl_lst ?a ?l; (case a => walk_at "ea"); (case l => simp)))
local macro_rules | `(tactic| walk_at "ev") => `(tactic| first
  | with_reducible exact ev_int
  | (refine' ev_nm rfl ?v rfl rfl; (case v => walk_at "vis"))
  | (refine' ev_strS ?h; (case h => walk_at "str"))
  | (refine' ev_tup ?a ?l; (case a => walk_at "ea"); (case l => simp))
  | (refine' ev_bin ?a ?b ?r; (case a => walk_at "ev"); (case b => walk_at "ev"); (case r => walk_at "bin"))
  | (refine' ev_un ?a ?r; (case a => walk_at "ev"); (case r => exact un_negI))
  | (refine' ev_call (by assumption) (by assumption) (by decide) rfl ?a ?r; (case a => walk_at "ea"); (case r => walk_at "rel"))
  | (refine' ev_callB ?c rfl ?m ?b ?a; (case b => walk_at "boot"); (case a => walk_at "ea"); (case m => walk_at "blt"); (case c => walk_at "call"))
  | (refine' ev_isi ?e rfl ?m rfl ?n ?b ?t ?k ?d; (case b => walk_at "boot"); (case e => walk_at "ev"); (case m => walk_at "blt"); (case n => walk_at "blt"); (case t => walk_at "ty"); (case k => walk_at "kit"); (case d => decide))
  | (refine' ev_m1 PySem.F.slot_str_count PySem.F.type_str_count ?m ?t ?o ?e; (case o => walk_at "ev"); (case t => walk_at "ty"); (case e => walk_at "ev"); (case m => first | with_reducible exact mt_countWn | with_reducible exact mt_countWw | with_reducible exact mt_countWs | with_reducible exact mt_countWe))
  | (refine' ev_m1 PySem.F.slot_str_index PySem.F.type_str_index ?m ?t ?o ?e; (case o => walk_at "ev"); (case t => walk_at "ty"); (case e => walk_at "ev"); (case m => exact mt_indexW))
  | (refine' ev_m1 PySem.F.slot_str_strip PySem.F.type_str_strip ?m ?t ?o ?e; (case o => walk_at "ev"); (case t => walk_at "ty"); (case e => walk_at "ev"); (case m => exact mt_stripW (by walk_at "len")))
  | (refine' ev_ix ?a ?b ?r; (case a => walk_at "ev"); (case b => walk_at "ev"); (case r => walk_at "ix"))
  | (refine' EvL.d ?a; (case a => walk_at "el"))
  | exact ev_globS rfl (by assumption)
  | with_reducible exact ev_bl | with_reducible exact ev_non)
local macro_rules | `(tactic| walk_at "blt") => `(tactic| first
  | exact Blt.isinstance (by assumption) | exact Blt.int (by assumption) | exact Blt.bool (by assumption) | exact Blt.str (by assumption) | exact Blt.list (by assumption) | exact Blt.tuple (by assumption) | exact Blt.range (by assumption) | exact Blt.len (by assumption) | exact Blt.sum (by assumption) | exact Blt.abs (by assumption) | exact Blt.min (by assumption) | exact Blt.all (by assumption) | exact Blt.any (by assumption) | exact Blt.sorted (by assumption) | exact Blt.set (by assumption) | exact Blt.enumerate (by assumption) | exact Blt.zip (by assumption) | exact Blt.reversed (by assumption))
local macro_rules | `(tactic| walk_at "call") => `(tactic| first | exact ev_lenW (by walk_at "len") | exact call_lenL | exact call_lenT | exact call_absI | exact call_minI rfl | exact call_sumI rfl)
local macro_rules | `(tactic| walk_at "et") => `(tactic| (refine' EvT.is ?a ?b; (case a => walk_at "et0"); (case b => rfl)))
local macro_rules | `(tactic| walk_at "evg") => `(tactic| (refine' Ev.is ?a ?b; (case a => walk_at "ev"); (case b => rfl)))
local macro_rules | `(tactic| walk_at "et0") => `(tactic| first
  | (refine' et_not ?a; (case a => walk_at "et0"))
  | (refine' et_cmp ?a ?b ?r ?m; (case a => walk_at "ev"); (case b => walk_at "ev"); (case r => walk_at "cmp"); (case m => walk_at "mark"))
  | (refine' et_val ?a ?h; (case a => walk_at "ev"); (case h => (intro _; rfl))))
local macro_rules | `(tactic| walk_at "boot") => `(tactic| first | with_reducible exact b_int | with_reducible exact b_bool | with_reducible exact b_str | with_reducible exact b_list | with_reducible exact b_tuple | with_reducible exact b_range | with_reducible exact b_set | with_reducible exact b_enumerate | with_reducible exact b_zip | with_reducible exact b_reversed | with_reducible exact b_isinstance | with_reducible exact b_len | with_reducible exact b_sum | with_reducible exact b_abs | with_reducible exact b_min | with_reducible exact b_all | with_reducible exact b_any | with_reducible exact b_sorted)
local macro_rules | `(tactic| walk_at "ix") => `(tactic| first | exact ix_lett)
local macro_rules | `(tactic| walk_at "kit") => `(tactic| first | with_reducible exact k_int_int | with_reducible exact k_int_bool | with_reducible exact k_int_str | with_reducible exact k_int_list | with_reducible exact k_int_tuple | with_reducible exact k_bool_int | with_reducible exact k_bool_bool | with_reducible exact k_bool_str | with_reducible exact k_bool_list | with_reducible exact k_bool_tuple | with_reducible exact k_str_int | with_reducible exact k_str_bool | with_reducible exact k_str_str | with_reducible exact k_str_list | with_reducible exact k_str_tuple | with_reducible exact k_list_int | with_reducible exact k_list_bool | with_reducible exact k_list_str | with_reducible exact k_list_list | with_reducible exact k_list_tuple | with_reducible exact k_tuple_int | with_reducible exact k_tuple_bool | with_reducible exact k_tuple_str | with_reducible exact k_tuple_list | with_reducible exact k_tuple_tuple | with_reducible exact k_NoneType_int | with_reducible exact k_NoneType_bool | with_reducible exact k_NoneType_str | with_reducible exact k_NoneType_list | with_reducible exact k_NoneType_tuple)
local macro_rules | `(tactic| walk_at "ty") => `(tactic| first | with_reducible exact ty_int | with_reducible exact ty_W | with_reducible exact ty_ptD | with_reducible exact ty_bool | with_reducible exact ty_str | with_reducible exact ty_list | with_reducible exact ty_tuple | with_reducible exact ty_none)
local macro_rules | `(tactic| walk_at "rel") => `(tactic| first | exact ⟨_, by walk_at "len", rfl, rfl⟩ | exact ⟨_, _, by walk_at "len", rfl, rfl⟩ | exact ⟨_, rfl, rfl⟩ | exact ⟨_, _, rfl, rfl⟩)
local macro_rules | `(tactic| walk_at "ix") => `(tactic| first | exact ix_lett | exact ix_nesw)
local macro_rules | `(tactic| walk_at "le") => `(tactic| repeat first | exact .nil | refine .keep rfl ?_ | refine .skip ?_)
/-! ### around, crossings, squares -/
def sqD (e : Pt × Int) : PyData := .tuple [ptD e.1, .int e.2]
theorem fz_sqD (e : Pt × Int) : fz (sqD e) = true := rfl
noncomputable def rowsK (v : Wk) : List Pt := srtP (keys (cr [] (0, 0) v))
noncomputable def sqF (v : Wk) : List (Pt × Int) := srtBy sqD (sqs v (rowsK v))
def RCross : List PyData → List (List Key × PyData) → Prop := fun ds r => ∃ v : Wk, v.length ≤ 9000 ∧ ds = [W v] ∧ r = encD (cr [] (0, 0) v)
def RSquares : List PyData → List PyData → Prop := fun ds r => ∃ v : Wk, v.length ≤ 700 ∧ goAll (0, 0) v = (0, 0) ∧ ds = [W v] ∧ r = (sqF v).map sqD
def RAround : List PyData → PyData → Prop := fun ds r => ∃ (v : Wk) (q : Pt), v.length ≤ 9000 ∧ goAll (0, 0) v = (0, 0) ∧ ds = [W v, ptD q] ∧ r = .int (wn (0, 0) v q.1 q.2)
def RLAround : List PyData → PyData → Prop := fun ds r => ∃ (v : Wk) (q : Pt), v.length ≤ 9000 ∧ ds = [W v, .list ((pls0 v).map ptD), ptD q] ∧ r = .int (wv (0, 0) v q.1 q.2)
theorem cr_take (v : Wk) (i : Nat) (h : i < v.length) : cr [] (0, 0) (v.take (i + 1)) = crStep (cr [] (0, 0) (v.take i)) (goAll (0, 0) (v.take i)) (v.getD i .n) := by rw [take_getD v .n i h, cr_snoc]
theorem wn_take (v : Wk) (i : Nat) (h : i < v.length) (c y : Int) : wn (0, 0) (v.take (i + 1)) c y = wn (0, 0) (v.take i) c y + wnS (goAll (0, 0) (v.take i)) (v.getD i .n) c y := by
  rw [take_getD v .n i h]
  unfold wn
  rw [ss_snoc]
  rfl
theorem wv_snoc (d : Dr) (c y : Int) : ∀ (w : Wk) (p : Pt), wv p (w ++ [d]) c y = wv p w c y + wvS (goAll p w) d c y
  | [], p => by
    show wvS p d c y + 0 = 0 + wvS p d c y
    omega
  | e :: w, p => by
    show wvS p e c y + wv (go p e) (w ++ [d]) c y = wvS p e c y + wv (go p e) w c y + wvS (goAll (go p e) w) d c y
    rw [wv_snoc d c y w, Int.add_assoc]
theorem wv_take (v : Wk) (i : Nat) (h : i < v.length) (c y : Int) : wv (0, 0) (v.take (i + 1)) c y = wv (0, 0) (v.take i) c y + wvS (goAll (0, 0) (v.take i)) (v.getD i .n) c y := by rw [take_getD v .n i h, wv_snoc]
theorem encD_len (D : Cr) : (encD D).length = D.length := List.length_map ..
theorem keysD_eq (D : Cr) : ((encD D).map fun p => kD p.1) = (keys D).map ptD := by
  unfold encD keys
  rw [List.map_map, List.map_map]
  rfl
theorem alike_pts (l : List Pt) : PySem.W.AllAlike (l.map ptD) := fun d hd d' hd' => by
  obtain ⟨p, _, rfl⟩ := List.mem_map.mp hd
  obtain ⟨q, _, rfl⟩ := List.mem_map.mp hd'
  rfl
theorem sortable_pts (l : List Pt) : PySem.W.Sortable (l.map ptD) := .inl fun d hd => by
  obtain ⟨p, _, rfl⟩ := List.mem_map.mp hd
  exact ⟨_, _, rfl⟩
theorem alike_sqs (l : List (Pt × Int)) : PySem.W.AllAlike (l.map sqD) := fun d hd d' hd' => by
  obtain ⟨p, _, rfl⟩ := List.mem_map.mp hd
  obtain ⟨q, _, rfl⟩ := List.mem_map.mp hd'
  rfl
theorem sortable_sqs (l : List (Pt × Int)) : PySem.W.Sortable (l.map sqD) := .inl fun d hd => by
  obtain ⟨p, _, rfl⟩ := List.mem_map.mp hd
  exact ⟨_, _, rfl⟩
theorem noDs_map {α : Type} {f : α → PyData} {l : List α} (h : ∀ a, noD (f a) = true) : noDs (l.map f) = true := noDs_of fun d hd => by
  obtain ⟨a, _, rfl⟩ := List.mem_map.mp hd
  exact h a
theorem rowsK_nd (v : Wk) : (keys (cr [] (0, 0) v)).Nodup := keys_cr v [] (0, 0) List.nodup_nil
theorem rowsK_cl {v : Wk} (h : goAll (0, 0) v = (0, 0)) : Cl v (rowsK v) := ⟨h, srtP_lt (rowsK_nd v), fun k hk => by
  unfold rowsK srtP
  rw [(srtBy_perm ptD _).mem_iff]
  exact (mem_cr k v [] (0, 0)).mpr (.inr hk)⟩
theorem rowsK_len (v : Wk) : (rowsK v).length ≤ v.length := by
  unfold rowsK srtP
  rw [(srtBy_perm ptD _).length_eq]
  unfold keys
  rw [List.length_map]
  have := cr_len v [] (0, 0)
  simpa using this
theorem dget_tk (v : Wk) (k : Pt) : dget (cr [] (0, 0) v) k = tk v k := by
  rw [dget_cr]
  show 0 + _ = _
  rw [Int.zero_add]
  rfl
theorem touch_small : ∀ (w : Wk) (p : Pt) (k : Pt), k ∈ touch p w → k.2 ≤ p.1 + w.length ∧ p.1 - w.length ≤ k.2
  | [], p, k, h => by cases h
  | d :: w, p, k, h => by
    rw [List.length_cons]
    rcases List.mem_append.mp h with h | h
    · cases d <;> simp [ckey] at h <;> subst h <;> simp <;> omega
    · have := touch_small w (go p d) k h
      have h2 : (go p d).1 ≤ p.1 + 1 ∧ p.1 - 1 ≤ (go p d).1 := by cases d <;> simp [go, Dr.dx] <;> omega
      omega
theorem rowsK_small (v : Wk) : ∀ k ∈ rowsK v, -(v.length : Int) ≤ k.2 ∧ k.2 ≤ v.length := fun k hk => by
  unfold rowsK srtP at hk
  rw [(srtBy_perm ptD _).mem_iff] at hk
  rcases (mem_cr k v [] (0, 0)).mp hk with h | h
  · cases h
  · have := touch_small v (0, 0) k h
    simp only at this
    omega
theorem sqA_flat {f : Pt → Int} : ∀ (L : List Pt) (t : Int), sqA f L t = ((List.range L.length).map fun j => seg (L.getD j (0, 0)) (L.drop (j + 1)) (t - sumf f (L.take (j + 1)))).flatten
  | [], t => rfl
  | k :: L, t => by
    show seg k L (t - f k) ++ sqA f L (t - f k) = _
    rw [sqA_flat L (t - f k), List.length_cons, List.range_succ_eq_map, List.map_cons, List.flatten_cons, List.map_map]
    congr 1
    · show seg k L (t - f k) = seg k L (t - sumf f [k])
      rw [sumf_cons]
      congr 1
      show t - f k = t - (f k + 0)
      omega
    · congr 1
      apply List.map_congr_left
      intro j _
      show seg (L.getD j (0, 0)) (L.drop (j + 1)) (t - f k - sumf f (L.take (j + 1))) = seg (L.getD j (0, 0)) (L.drop (j + 1)) (t - sumf f (k :: L.take (j + 1)))
      rw [sumf_cons]
      congr 1
      omega
noncomputable def sqB (v : Wk) (i : Nat) : List (Pt × Int) := ((List.range i).map fun j => seg ((rowsK v).getD j (0, 0)) ((rowsK v).drop (j + 1)) (0 - sumf (tk v) ((rowsK v).take (j + 1)))).flatten
theorem sqB_succ (v : Wk) (i : Nat) : sqB v (i + 1) = sqB v i ++ seg ((rowsK v).getD i (0, 0)) ((rowsK v).drop (i + 1)) (0 - sumf (tk v) ((rowsK v).take (i + 1))) := by
  unfold sqB
  rw [List.range_succ, List.map_append, List.flatten_append]
  simp
theorem sqB_all (v : Wk) : sqB v (rowsK v).length = sqs v (rowsK v) := (sqA_flat (rowsK v) 0).symm
theorem sumf_app (f : Pt → Int) (a b : List Pt) : sumf f (a ++ b) = sumf f a + sumf f b := by
  unfold sumf
  rw [List.map_append, List.sum_append]
theorem sqB_len (v : Wk) (hv : v.length ≤ 700) : ∀ i, i ≤ (rowsK v).length → (sqB v i).length ≤ i * (2 * v.length)
  | 0, _ => Nat.zero_le _
  | i + 1, h => by
    rw [sqB_succ, List.length_append, Nat.add_mul]
    have ih := sqB_len v hv i (by omega)
    have hk : (rowsK v).getD i (0, 0) ∈ rowsK v := by
      rw [List.getD_eq_getElem?_getD, List.getElem?_eq_getElem (by omega)]
      exact List.getElem_mem _
    have h1 := rowsK_small v _ hk
    have h2 : -(v.length : Int) ≤ (nxt ((rowsK v).drop (i + 1))).2 ∧ (nxt ((rowsK v).drop (i + 1))).2 ≤ v.length := by
      cases q : (rowsK v).drop (i + 1) with
      | nil =>
        show -(v.length : Int) ≤ 0 ∧ (0 : Int) ≤ v.length
        omega
      | cons k r => exact rowsK_small v k (List.mem_of_mem_drop (by rw [q]; exact List.mem_cons_self ..))
    have h3 : (seg ((rowsK v).getD i (0, 0)) ((rowsK v).drop (i + 1)) (0 - sumf (tk v) ((rowsK v).take (i + 1)))).length ≤ 2 * v.length := by
      unfold seg
      split
      · exact Nat.zero_le _
      · rw [List.length_map, List.length_range]
        omega
    omega
theorem sqF_perm (v : Wk) : (sqF v).Perm (sqs v (rowsK v)) := srtBy_perm ..
theorem its_ptE {ds : List Pt} (i : Nat) (h : i < ds.length) : (ds.map ptD).getD i .none = .tuple [.int (ds.getD i (0, 0)).1, .int (ds.getD i (0, 0)).2] := by
  rw [List.getD_eq_getElem?_getD, List.getElem?_map, List.getD_eq_getElem?_getD, List.getElem?_eq_getElem h]
  rfl
section
variable {P : Program} {w : World} {K : PySem.W.Frag} {mg : Str → Option Value} {base : Heap}
theorem ok_crossings (F : Df K mg "crossings" s_crossings ["walk"]) (hb : Blt mg) (c1 : Cd P w K mg base 2 "walked" (spL K RWalked)) : Cd P w K mg base 3 "crossings" (spM K RCross) := by
  refine cdM F sc_crossings (fun ds r ⟨_, _, e, _⟩ => by rw [e]; rfl) fun f cdv A outer s H E hr nd ds r D ⟨v, hv, e1, e2⟩ hD => ?_
  subst e1 e2
  refine run_env (e' := [some (.d (W v)), none, none, none, none]) rfl ?_
  refine rs_M rfl nd (.inl rfl) ?_
  refine rs_for21 (n := v.length) (u := fun i => .int (goAll (0, 0) (v.take i)).1) (v := fun i => .int (goAll (0, 0) (v.take i)).2) (w := fun i => L1 (v.getD i .n)) (fun i => [some (.d (W v)), some (.m (encD (cr [] (0, 0) (v.take i)))), none, none, none]) rfl rfl rfl nd (.inl rfl) (.inl rfl) (.inl rfl) PassesOwn.never (its_zipP rfl hb.zip (by walk_at "el") (by walk_at "ev")) (by walk_at "le") (fun i _ => ⟨rfl, rfl, rfl⟩) (fun i Hl D' hi hs hn hrt => ?_) ?_
  · have e1 := cr_take v i hi
    have hl := cr_len (v.take i) [] (0, 0)
    rw [List.length_take] at hl
    generalize v.getD i .n = d at *
    generalize cr [] (0, 0) (v.take i) = C at *
    generalize goAll (0, 0) (v.take i) = p at *
    have hz : (encD C).length ≤ 1000000 := by rw [encD_len]; simp at hl; omega
    refine run_if (z := decide (d = .n)) (by walk_at "et") (fun z => ?_) (fun z => ?_)
    · refine run_mput (k := K2 (p.2, p.1)) (d := .int (dget C (p.2, p.1) + 1)) hr rfl (.inl rfl) rfl (by walk_at "evg") (ev_bin (Ev.is (ev_mget2 (k := K2 (p.2, p.1)) hr rfl (.inl rfl) rfl (by walk_at "evg") ev_int) (mget_enc C (p.2, p.1))) ev_int bin_addI) rfl hz (run_nx (run_turn hn ?_))
      have e := ofT z
      subst e
      rw [mput_enc, e1]
      walk_at "le"
    · refine run_if (z := decide (d = .s)) (by walk_at "et") (fun z2 => ?_) (fun z2 => ?_)
      · refine run_mput (k := K2 (p.2 - 1, p.1)) (d := .int (dget C (p.2 - 1, p.1) - 1)) hr rfl (.inl rfl) rfl (by walk_at "evg") (ev_bin (Ev.is (ev_mget2 (k := K2 (p.2 - 1, p.1)) hr rfl (.inl rfl) rfl (by walk_at "evg") ev_int) (mget_enc C (p.2 - 1, p.1))) ev_int bin_subI) rfl hz (run_nx (run_nx (run_turn hn ?_)))
        have e := ofT z2
        subst e
        rw [mput_enc, e1]
        walk_at "le"
      · refine run_nx (run_nx (run_turn hn ?_))
        have e : crStep C p d = C := by cases d <;> first | rfl | exact absurd z (by decide) | exact absurd z2 (by decide)
        rw [e1, e]
        walk_at "le"
  · rw [List.take_length]
    exact run_retM rfl (.inl rfl) rfl hD
theorem ok_squares_of (F : Df K mg "squares_of" s_squares_of ["walk"]) (hb : Blt mg) (c1 : Cd P w K mg base 3 "crossings" (spM K RCross)) : Cd P w K mg base 4 "squares_of" (spL K RSquares) := by
  refine cdL F sc_squares_of (fun ds r ⟨_, _, _, e, _⟩ => by rw [e]; rfl) fun f cdv A outer s H E hr nd ds r D ⟨v, hv, hc, e1, e2⟩ hD => ?_
  subst e1 e2
  have Hcl := rowsK_cl hc
  have hrl := rowsK_len v
  have hsm := rowsK_small v
  refine run_env (e' := [some (.d (W v)), none, none, none, none, none, none, none, none]) rfl ?_
  refine run_setMD (kvs := encD (cr [] (0, 0) v)) rfl nd (by walk_at "loc") (evm_call c1 hr (by decide) rfl (ea_cons (by walk_at "ev") ea_nil) ⟨v, by omega, rfl, rfl⟩) rfl ?_
  refine rs_B (d := .list ((rowsK v).map ptD)) rfl nd (by walk_at "loc") (Ev.is (EvL.d (evl_sortedG (kvs := encD (cr [] (0, 0) v)) hr rfl (by rw [keysD_eq]; exact alike_pts _) (by rw [keysD_eq]; exact sortable_pts _) rfl hb.sorted rfl (by walk_at "vis") rfl)) (by rw [keysD_eq, srt_by]; rfl)) rfl ?_
  refine rs_L (ds := []) rfl nd (by walk_at "loc") (evl_lst ea_nil) rfl ?_
  refine rs_F (d := .int 0) rfl nd (by walk_at "loc") (by walk_at "ev") rfl ?_
  have hI : ∀ {X : Cx} {H0 : Hp} {env : En} {tg it : Expr}, ItS X H0 env tg it ((rowsK v).map ptD).length (fun i => .tuple [.int (i : Nat), ((rowsK v).map ptD).getD i .none]) → ItS X H0 env tg it (rowsK v).length (fun i => .tuple [.int (i : Nat), .tuple [.int ((rowsK v).getD i (0, 0)).1, .int ((rowsK v).getD i (0, 0)).2]]) := fun h => by
    rw [List.length_map] at h
    exact h.congr fun i hi => by rw [its_ptE i hi]
  refine rs_for12 (n := (rowsK v).length) (u := fun i => .int (i : Nat)) (v := fun i => .int ((rowsK v).getD i (0, 0)).1) (w := fun i => .int ((rowsK v).getD i (0, 0)).2) (fun i => [some (.d (W v)), some (.g (mFix (encD (cr [] (0, 0) v)))), some (.d (.list ((rowsK v).map ptD))), some (.l ((sqB v i).map sqD)), some (.d (.int (0 - sumf (tk v) ((rowsK v).take i)))), none, none, none, none]) rfl rfl rfl nd (by walk_at "loc") (by walk_at "loc") (by walk_at "loc") PassesOwn.never (hI (its_enumV 2 rfl hb.enumerate rfl (by walk_at "vis") rfl)) (by walk_at "le") (fun i _ => ⟨rfl, rfl, rfl⟩) (fun i Hl D' hi hs hn hrt => ?_) ?_
  · have hk : (rowsK v)[i]? = some ((rowsK v).getD i (0, 0)) := by
      rw [List.getD_eq_getElem?_getD, List.getElem?_eq_getElem hi]
      rfl
    have hmem : (rowsK v).getD i (0, 0) ∈ keys (cr [] (0, 0) v) := by
      have := List.mem_of_getElem? hk
      unfold rowsK srtP at this
      exact (srtBy_perm ptD _).mem_iff.mp this
    have htk : sumf (tk v) ((rowsK v).take (i + 1)) = sumf (tk v) ((rowsK v).take i) + tk v ((rowsK v).getD i (0, 0)) := by
      rw [take_getD (rowsK v) (0, 0) i hi, sumf_app, sumf_cons]
      show _ = _ + _
      simp [sumf]
    have hsplit : rowsK v = (rowsK v).take i ++ (rowsK v).getD i (0, 0) :: (rowsK v).drop (i + 1) := by
      have h2 : (rowsK v).getD i (0, 0) = (rowsK v)[i] := by
        rw [List.getD_eq_getElem?_getD, List.getElem?_eq_getElem hi]
        rfl
      rw [h2, List.getElem_cons_drop, List.take_append_drop]
    have hrest : 0 - sumf (tk v) ((rowsK v).take (i + 1)) = sumf (tk v) ((rowsK v).drop (i + 1)) := by
      have h0 := Hcl.zero
      rw [← List.take_append_drop (i + 1) (rowsK v), sumf_app] at h0
      omega
    have hB := sqB_succ v i
    have hBl := sqB_len v hv i (by omega)
    have hnx := Hcl.nx ((rowsK v).take i) _ _ hsplit
    have hbig : i * (2 * v.length) ≤ 700 * 1400 := Nat.mul_le_mul (by omega) (by omega)
    have hval : mval (encD (cr [] (0, 0) v)) (K2 ((rowsK v).getD i (0, 0))) = some (.int (tk v ((rowsK v).getD i (0, 0)))) := by
      rw [mval_enc, ← dget_tk]
      unfold dget
      cases q : (cr [] (0, 0) v).find? (fun e => decide (e.1 = (rowsK v).getD i (0, 0))) with
      | none =>
        rw [List.find?_eq_none] at q
        obtain ⟨e, he, h1⟩ := List.mem_map.mp hmem
        exact absurd (decide_eq_true h1) (q e he)
      | some e => rfl
    have hkb := hsm _ (List.mem_of_getElem? hk)
    have hnb : ∀ k' r, (rowsK v).drop (i + 1) = k' :: r → (rowsK v)[i + 1]? = some k' ∧ -(v.length : Int) ≤ k'.2 ∧ k'.2 ≤ v.length := fun k' r e => by
      have h1 : (rowsK v)[i + 1]? = some k' := by
        have : ((rowsK v).drop (i + 1))[0]? = some k' := by rw [e]; rfl
        rw [List.getElem?_drop] at this
        exact this
      exact ⟨h1, hsm _ (List.mem_of_getElem? h1)⟩
    rw [hrest] at hB
    rw [htk] at hrest
    generalize (rowsK v).getD i (0, 0) = k at *
    refine rs_F (d := .int (0 - sumf (tk v) ((rowsK v).take i) - tk v k)) rfl nd (by walk_at "loc") (ev_bin (by walk_at "ev") (ev_gget (k := K2 k) hr rfl (by walk_at "vis") rfl (by walk_at "evg") hval) bin_subI) rfl ?_
    rw [show 0 - sumf (tk v) ((rowsK v).take i) - tk v k = sumf (tk v) ((rowsK v).drop (i + 1)) by omega]
    have hE : Le [some (.d (W v)), some (.g (mFix (encD (cr [] (0, 0) v)))), some (.d (.list ((rowsK v).map ptD))), some (.l ((sqB v (i + 1)).map sqD)), some (.d (.int (0 - sumf (tk v) ((rowsK v).take (i + 1))))), none, none, none, none] [some (.d (W v)), some (.g (mFix (encD (cr [] (0, 0) v)))), some (.d (.list ((rowsK v).map ptD))), some (.l ((sqB v i).map sqD ++ (seg k ((rowsK v).drop (i + 1)) (sumf (tk v) ((rowsK v).drop (i + 1)))).map sqD)), some (.d (.int (sumf (tk v) ((rowsK v).drop (i + 1))))), some (.d (.int (i : Nat))), some (.d (.int k.1)), some (.d (.int k.2)), none] := by
      rw [hB, List.map_append, htk, show 0 - (sumf (tk v) ((rowsK v).take i) + tk v k) = sumf (tk v) ((rowsK v).drop (i + 1)) from hrest]
      walk_at "le"
    generalize ht : sumf (tk v) ((rowsK v).drop (i + 1)) = t at *
    refine run_if (z := !decide (t = 0)) (by walk_at "et") (fun z => ?_) (fun z => ?_)
    · have h0 : t ≠ 0 := by intro e; rw [e] at z; revert z; decide
      obtain ⟨k', r, e2, h5, h6⟩ := hnx h0
      obtain ⟨g1, g2, g3⟩ := hnb k' r e2
      have hseg : (seg k ((rowsK v).drop (i + 1)) t).map sqD = (List.range (k'.2 - k.2).toNat).map fun (j : Nat) => sqD ((k.2 + (j : Int), k.1), t) := by
        unfold seg
        rw [if_neg h0, List.map_map, e2]
        rfl
      have hat : atI ((rowsK v).map ptD) ((i : Int) + 1) = some (ptD k') := by
        have : atI ((rowsK v).map ptD) ((i + 1 : Nat) : Int) = some (ptD k') := atI_nat (by rw [List.getElem?_map, g1]; rfl)
        rwa [show ((i + 1 : Nat) : Int) = (i : Int) + 1 by omega] at this
      rw [hseg] at hE
      refine run_ext (zs := (List.range (k'.2 - k.2).toNat).map fun (j : Nat) => sqD ((k.2 + (j : Int), k.1), t)) rfl (by walk_at "vis") rfl (el_comp sc_squares_of (n := (k'.2 - k.2).toNat) (item := fun j => .int (k.2 + (j : Int))) (fun (j : Nat) => sqD ((k.2 + (j : Int), k.1), t)) rfl nd (by decide +kernel) (ite_range2 (m := k.2) (n := k'.2) rfl hb.range (by walk_at "ev") (ev_ix (y := .int 1) (ev_ix (by walk_at "ev") (by walk_at "ev") (ix_L hat)) ev_int (ix_T rfl)) (by omega)) (fun _ _ _ _ _ => ⟨.inl rfl, .inr rfl⟩) (fun j _ => rfl) (by omega) fun s' H' C cl fp j hj => ?_) (fzs_of fun d hd => by obtain ⟨j, _, rfl⟩ := List.mem_map.mp hd; rfl) (by rw [List.length_map, List.length_map, List.length_range]; omega) (run_nx (run_turn hn hE))
      walk_at "evg"
    · have h0 : t = 0 := by simpa using z
      refine run_nx (run_turn hn ?_)
      have e : seg k ((rowsK v).drop (i + 1)) t = [] := by unfold seg; rw [if_pos h0]
      rw [e, List.map_nil, List.append_nil] at hE
      exact hE
  · have hBl := sqB_len v hv (rowsK v).length (Nat.le_refl _)
    have hbig : (rowsK v).length * (2 * v.length) ≤ 700 * 1400 := Nat.mul_le_mul (by omega) (by omega)
    refine run_retL (EvL.is (evl_callB (call_sortedL hr (noDs_map fun e => rfl) (alike_sqs (sqB v (rowsK v).length)) (sortable_sqs _) (by rw [List.length_map]; omega) (fun d hd => ?_)) rfl hb.sorted b_sorted (ea_cons (by walk_at "ev") ea_nil)) ?_) hD
    · obtain ⟨e, _, rfl⟩ := List.mem_map.mp hd
      simp [sqD, ptD, PyData.depth, PyData.depthAll]
    · rw [sqB_all, srt_by]
      rfl
theorem ok_squares (F : Df K mg "squares" s_squares ["walk"]) (c1 : Cd P w K mg base 3 "asked_closed" (spD K RAskC)) (c2 : Cd P w K mg base 4 "squares_of" (spL K RSquares)) : Cd P w K mg base 5 "squares" (spL K RSquares) := by
  refine cdL F sc_squares (fun ds r ⟨_, _, _, e, _⟩ => by rw [e]; rfl) fun f cdv A outer s H E hr nd ds r D ⟨v, hv, hc, e1, e2⟩ hD => ?_
  subst e1 e2
  refine run_env (e' := [some (.d (W v))]) rfl ?_
  refine run_expr (d := .none) (ev_call c1 hr (by decide) rfl (ea_cons (by walk_at "ev") ea_nil) ⟨v, by omega, hc, rfl, rfl⟩) ?_
  exact run_retL (evl_call c2 hr (by decide) rfl (ea_cons (by walk_at "ev") ea_nil) ⟨v, hv, hc, rfl, rfl⟩) hD
end
section
variable {P : Program} {w : World} {K : PySem.W.Frag} {mg : Str → Option Value} {base : Heap}
end
/-! ### the area of turned, mirrored, begun walks -/
theorem cross_rot (v : Wk) : ∀ (p : Pt), crossW (rotP 1 p) (v.map (turnD 1)) = crossW p v := by
  induction v with
  | nil => intro p; rfl
  | cons d v ih =>
    intro p
    show _ + crossW (go (rotP 1 p) (turnD 1 d)) (v.map (turnD 1)) = _ + crossW (go p d) v
    rw [go_rot, ih (go p d)]
    congr 1
    generalize go p d = q
    show (-p.2) * q.1 - (-q.2) * p.1 = p.1 * q.2 - q.1 * p.2
    rw [Int.neg_mul, Int.neg_mul, Int.mul_comm p.2 q.1, Int.mul_comm q.2 p.1]
    omega
theorem area_rot1 {v : Wk} (h : goAll (0, 0) v = (0, 0)) : areaW (0, 0) (v.map (turnD 1)) = areaW (0, 0) v := by
  have h1 := cross_rot v (0, 0)
  have e : rotP 1 (0, 0) = (0, 0) := rfl
  rw [e] at h1
  have h2 : goAll (0, 0) (v.map (turnD 1)) = (0, 0) := by rw [goAll_rot0, h]; rfl
  rw [cross_closed h, cross_closed h2] at h1
  omega
def mirP (p : Pt) : Pt := (-p.1, p.2)
theorem go_mir (p : Pt) (d : Dr) : go (mirP p) (mir d) = mirP (go p d) := by cases d <;> (refine Prod.ext ?_ ?_ <;> simp [go, mirP, mir, Dr.dx, Dr.dy] <;> omega)
theorem area_mir : ∀ (v : Wk) (p : Pt), areaW (mirP p) (v.map mir) = - areaW p v
  | [], p => rfl
  | d :: v, p => by
    show (mirP p).1 * (mir d).dy + areaW (go (mirP p) (mir d)) (v.map mir) = -(p.1 * d.dy + areaW (go p d) v)
    rw [go_mir, area_mir v, show (mir d).dy = d.dy by cases d <;> rfl, show (mirP p).1 = -p.1 from rfl, Int.neg_mul]
    omega
theorem goAll_mir : ∀ (v : Wk) (p : Pt), goAll (mirP p) (v.map mir) = mirP (goAll p v)
  | [], p => rfl
  | d :: v, p => by
    show goAll (go (mirP p) (mir d)) (v.map mir) = mirP (goAll (go p d) v)
    rw [go_mir]
    exact goAll_mir v (go p d)
theorem area_shift (q : Pt) : ∀ (v : Wk) (p : Pt), areaW (p.1 + q.1, p.2 + q.2) v = areaW p v + q.1 * ((goAll p v).2 - p.2) ∧ goAll (p.1 + q.1, p.2 + q.2) v = ((goAll p v).1 + q.1, (goAll p v).2 + q.2)
  | [], p => by
    refine ⟨?_, rfl⟩
    show (0 : Int) = 0 + q.1 * (p.2 - p.2)
    rw [Int.sub_self, Int.mul_zero]
    rfl
  | d :: v, p => by
    have ih := area_shift q v (go p d)
    have e : go (p.1 + q.1, p.2 + q.2) d = ((go p d).1 + q.1, (go p d).2 + q.2) := Prod.ext (by simp only [go]; omega) (by simp only [go]; omega)
    refine ⟨?_, ?_⟩
    · show (p.1 + q.1) * d.dy + areaW (go (p.1 + q.1, p.2 + q.2) d) v = p.1 * d.dy + areaW (go p d) v + q.1 * ((goAll (go p d) v).2 - p.2)
      rw [e, ih.1]
      have e2 : (goAll (go p d) v).2 - p.2 = d.dy + ((goAll (go p d) v).2 - (go p d).2) := by simp only [go]; omega
      rw [e2, Int.add_mul, Int.mul_add]
      omega
    · show goAll (go (p.1 + q.1, p.2 + q.2) d) v = _
      rw [e]
      exact ih.2
theorem area_begun {a b : Wk} (h : goAll (0, 0) (a ++ b) = (0, 0)) : areaW (0, 0) (b ++ a) = areaW (0, 0) (a ++ b) ∧ goAll (0, 0) (b ++ a) = (0, 0) := by
  have ha := area_shift (goAll (0, 0) b) a (0, 0)
  have hb := area_shift (goAll (0, 0) a) b (0, 0)
  simp only [Int.zero_add] at ha hb
  have e1 : ((goAll (0, 0) b).1, (goAll (0, 0) b).2) = goAll (0, 0) b := rfl
  have e2 : ((goAll (0, 0) a).1, (goAll (0, 0) a).2) = goAll (0, 0) a := rfl
  rw [e1] at ha
  rw [e2] at hb
  rw [goAll_app, hb.2] at h
  have h1 : (goAll (0, 0) b).1 + (goAll (0, 0) a).1 = 0 := congrArg Prod.fst h
  have h2 : (goAll (0, 0) b).2 + (goAll (0, 0) a).2 = 0 := congrArg Prod.snd h
  refine ⟨?_, ?_⟩
  · rw [areaW_app, areaW_app, ha.1, hb.1]
    have e3 : (goAll (0, 0) b).1 = -(goAll (0, 0) a).1 := by omega
    have e4 : (goAll (0, 0) b).2 = -(goAll (0, 0) a).2 := by omega
    rw [e3, e4]
    simp only [Int.sub_zero, Int.neg_mul, Int.mul_neg]
    omega
  · rw [goAll_app, ha.2]
    exact Prod.ext (by show (goAll (0, 0) a).1 + (goAll (0, 0) b).1 = 0; omega) (by show (goAll (0, 0) a).2 + (goAll (0, 0) b).2 = 0; omega)
theorem area_rotW {v : Wk} (h : goAll (0, 0) v = (0, 0)) (k : Int) : areaW (0, 0) (rotW v k) = areaW (0, 0) v ∧ goAll (0, 0) (rotW v k) = (0, 0) := by
  have e : v.take (k % (v.length : Int)).toNat ++ v.drop (k % (v.length : Int)).toNat = v := List.take_append_drop ..
  have := area_begun (a := v.take (k % (v.length : Int)).toNat) (b := v.drop (k % (v.length : Int)).toNat) (by rw [e]; exact h)
  rw [e] at this
  exact this
/-! filling a dict -/
def dfold (L : List (Pt × Int)) : Cr := L.foldl (fun D e => dput D e.1 e.2) []
theorem dfold_snoc (L : List (Pt × Int)) (e : Pt × Int) : dfold (L ++ [e]) = dput (dfold L) e.1 e.2 := by
  unfold dfold
  rw [List.foldl_append]
  rfl
theorem dfold_len (L : List (Pt × Int)) : (dfold L).length ≤ L.length := by
  have key : ∀ (n : Nat) (L : List (Pt × Int)), L.length = n → (dfold L).length ≤ L.length := by
    intro n
    induction n with
    | zero => intro L h; rw [List.eq_nil_of_length_eq_zero h]; exact Nat.le_refl _
    | succ n ih =>
      intro L h
      rcases List.eq_nil_or_concat L with rfl | ⟨M, e, rfl⟩
      · cases h
      · rw [List.concat_eq_append] at h ⊢
        rw [List.length_append] at h ⊢
        have := ih M (by simpa using h)
        rw [dfold_snoc]
        have h2 : (dput (dfold M) e.1 e.2).length ≤ (dfold M).length + 1 := by
          unfold dput
          split
          · rw [List.length_map]; exact Nat.le_succ _
          · rw [List.length_append]; exact Nat.le_refl _
        simp at h2 ⊢
        omega
  exact key _ L rfl
theorem dfold_get : ∀ (n : Nat) (L : List (Pt × Int)), L.length = n → (L.map (·.1)).Nodup → ∀ q : Pt, (∀ t, (q, t) ∈ L → dget (dfold L) q = t) ∧ (q ∉ L.map (·.1) → dget (dfold L) q = 0) := by
  intro n
  induction n with
  | zero =>
    intro L h nd q
    rw [List.eq_nil_of_length_eq_zero h]
    exact ⟨fun t z => (by cases z), fun _ => rfl⟩
  | succ n ih =>
    intro L h nd q
    rcases List.eq_nil_or_concat L with rfl | ⟨M, e, rfl⟩
    · cases h
    · rw [List.concat_eq_append] at h nd ⊢
      rw [List.length_append] at h
      rw [List.map_append] at nd ⊢
      have nd' := List.nodup_append.mp nd
      obtain ⟨i1, i2⟩ := ih M (by simpa using h) nd'.1 q
      rw [dfold_snoc, dget_put]
      refine ⟨fun t ht => ?_, fun hq => ?_⟩
      · rcases List.mem_append.mp ht with z | z
        · have : ¬ q = e.1 := fun y => nd'.2.2 q (List.mem_map.mpr ⟨_, z, rfl⟩) e.1 (by simp) y
          rw [if_neg this]
          exact i1 t z
        · rw [List.mem_singleton] at z
          rw [← z, if_pos rfl]
      · rw [List.mem_append, not_or] at hq
        have : ¬ q = e.1 := fun y => hq.2 (by simp [y])
        rw [if_neg this]
        exact i2 hq.1
theorem sqF_mem {v : Wk} (h : goAll (0, 0) v = (0, 0)) (e : Pt × Int) : e ∈ sqF v ↔ e.2 = wn (0, 0) v e.1.1 e.1.2 ∧ e.2 ≠ 0 := by
  rw [(sqF_perm v).mem_iff]
  exact mem_sqs (rowsK_cl h) e
theorem sqF_nd {v : Wk} (h : goAll (0, 0) v = (0, 0)) : ((sqF v).map (·.1)).Nodup := ((sqF_perm v).map (·.1)).nodup_iff.mpr (sqs_nd (rowsK_cl h))
theorem isum_perm {l m : List Int} (h : l.Perm m) : l.sum = m.sum := by
  induction h with
  | nil => rfl
  | cons x _ ih => rw [List.sum_cons, List.sum_cons, ih]
  | swap x y l => rw [List.sum_cons, List.sum_cons, List.sum_cons, List.sum_cons]; omega
  | trans _ _ h1 h2 => rw [h1, h2]
theorem sqF_sum {v : Wk} (h : goAll (0, 0) v = (0, 0)) : ((sqF v).map (·.2)).sum = areaW (0, 0) v := by
  rw [isum_perm ((sqF_perm v).map (·.2))]
  exact sqs_sum (rowsK_cl h)
theorem dataLt_sq {a b : Pt × Int} (h : ltP2 a.1 b.1) : PySem.W.dataLt (sqD a) (sqD b) = true := by
  unfold PySem.W.dataLt sqD ptD
  unfold ltP2 at h
  simp only [PySem.W.keyToks, PySem.W.keyToksAll, PyProof.Rows.lexLt, PyProof.Rows.itemLt, List.append_nil, List.cons_append, List.nil_append, List.singleton_append]
  by_cases h1 : a.1.1 < b.1.1
  · simp [h1]
  · have h3 : a.1.1 = b.1.1 := by omega
    have h4 : a.1.2 < b.1.2 := by omega
    simp [h3, h4]
theorem sqF_lt {v : Wk} (h : goAll (0, 0) v = (0, 0)) : (sqF v).Pairwise fun a b => ltP2 a.1 b.1 := by
  have h1 := srtBy_sorted sqD (sqs v (rowsK v))
  have h2 : (sqF v).Pairwise fun a b => ¬ a.1 = b.1 := List.pairwise_map.mp (sqF_nd h)
  refine (List.Pairwise.and h1 h2).imp fun {a b} hab => ?_
  obtain ⟨h3, h4⟩ := hab
  rcases ltP2_tri h4 with z | z
  · exact z
  · rw [dataLt_sq z] at h3
    cases h3
theorem sqF_len (v : Wk) (hv : v.length ≤ 700) : (sqF v).length ≤ 700 * 1400 := by
  rw [(sqF_perm v).length_eq, ← sqB_all]
  have h1 := sqB_len v hv (rowsK v).length (Nat.le_refl _)
  have h2 := rowsK_len v
  exact Nat.le_trans h1 (Nat.mul_le_mul (by omega) (by omega))
theorem sqF_get {v : Wk} (h : goAll (0, 0) v = (0, 0)) (q : Pt) : dget (dfold (sqF v)) q = wn (0, 0) v q.1 q.2 := by
  obtain ⟨h1, h2⟩ := dfold_get _ (sqF v) rfl (sqF_nd h) q
  by_cases h0 : wn (0, 0) v q.1 q.2 = 0
  · rw [h0]
    refine h2 fun z => ?_
    obtain ⟨e, he, rfl⟩ := List.mem_map.mp z
    have := (sqF_mem h e).mp he
    exact this.2 (this.1.trans h0)
  · exact h1 _ ((sqF_mem h (q, _)).mpr ⟨rfl, h0⟩)
/-! far away nothing is gone around -/
theorem touch_row : ∀ (w : Wk) (p : Pt) (k : Pt), k ∈ touch p w → k.1 ≤ p.2 + w.length
  | [], p, k, h => by cases h
  | d :: w, p, k, h => by
    rw [List.length_cons]
    rcases List.mem_append.mp h with h | h
    · cases d <;> simp [ckey] at h <;> subst h <;> simp <;> omega
    · have := touch_row w (go p d) k h
      have h2 : (go p d).2 ≤ p.2 + 1 := by cases d <;> simp [go, Dr.dy] <;> omega
      omega
theorem ss_none {g : Pt → Int} : ∀ (w : Wk) (p : Pt), (∀ k ∈ touch p w, g k = 0) → ss g p w = 0
  | [], p, _ => rfl
  | d :: w, p, h => by
    have ih := ss_none w (go p d) fun k hk => h k (List.mem_append_right _ hk)
    show _ + ss g (go p d) w = 0
    rw [ih]
    cases q : ckey p d with
    | none => rfl
    | some e =>
      obtain ⟨k, v⟩ := e
      have : g k = 0 := h k (by
        show k ∈ _ ++ _
        rw [q]
        exact List.mem_append_left _ (List.mem_singleton.mpr rfl))
      simp only
      rw [this, Int.mul_zero]
      rfl
theorem wn_far1 {v : Wk} {c y : Int} (h : (v.length : Int) ≤ c) : wn (0, 0) v c y = 0 := ss_none v (0, 0) fun k hk => by
  have := touch_small v (0, 0) k hk
  simp only at this
  exact if_neg (by omega)
theorem wn_far2 {v : Wk} {c y : Int} (h : (v.length : Int) < y) : wn (0, 0) v c y = 0 := ss_none v (0, 0) fun k hk => by
  have := touch_row v (0, 0) k hk
  simp only at this
  exact if_neg (by omega)
theorem wn_far3 {v : Wk} {c y : Int} (hc : goAll (0, 0) v = (0, 0)) (h : c < -(v.length : Int)) : wn (0, 0) v c y = 0 := by
  have hr := rowS_closed hc y
  have H := rowsK_cl hc
  unfold rowS at hr
  unfold wn
  rw [← H.ss] at hr ⊢
  refine Eq.trans (isum_congr fun q hq => ?_) hr
  have := rowsK_small v q hq
  congr 1
  by_cases hy : q.1 = y
  · rw [if_pos ⟨hy, by omega⟩, if_pos hy]
  · rw [if_neg (fun z => hy z.1), if_neg hy]
def e0 : Pt × Int := ((0, 0), 0)
theorem getD_sq (F : List (Pt × Int)) (i : Nat) (h : i < F.length) : (F.map sqD).getD i .none = .tuple [ptD (F.getD i e0).1, .int (F.getD i e0).2] := by
  rw [List.getD_eq_getElem?_getD, List.getElem?_map, List.getD_eq_getElem?_getD, List.getElem?_eq_getElem h]
  rfl
theorem pg_two {X : Cx} {x y : Str} {px py pt : Pos} {kt i j : Nat} (hc : X.calm = true) (hN : X.N.Nodup) (hi : X.N[i]? = some x) (hj : X.N[j]? = some y) (hx : Loc X.env.scope x) (hy : Loc X.env.scope y)
    (hfx : X.fn x = true ∨ X.env.scope.names.lookup x = some .local) (hfy : X.fn y = true ∨ X.env.scope.names.lookup y = some .local)
    (h2 : (assignEach [.Name x px, .Name y py] X.env).map (·.2) = assign (.Name x px) X.env :: (assignEach [.Name y py] X.env).map (·.2) := by rfl)
    (h3 : (assignEach [.Name y py] X.env).map (·.2) = assign (.Name y py) X.env :: (assignEach [] X.env).map (·.2) := by rfl)
    (hn : (assignEach [.Name x px, .Name y py] X.env).length = 2 := by rfl) (hst : (assignEach [.Name x px, .Name y py] X.env).findIdx? (·.1) = none := by rfl) : PG X (.Tuple [.Name x px, .Name y py] kt pt) (gTup X.K 2 (gCons (gName i) (gCons (gName j) gNil))) :=
  pg_tup hc (pgs_cons (pg_name hN hi hx hfx) (pgs_cons (pg_name hN hj hy hfy) pgs_nil h3) h2) hn hst
theorem getD_mem {F : List (Pt × Int)} {i : Nat} (h : i < F.length) : F.getD i e0 ∈ F := by
  rw [List.getD_eq_getElem?_getD, List.getElem?_eq_getElem h]
  exact List.getElem_mem h
theorem ite_sqs {X : Cx} {env : En} {tg e : Expr} {F : List (Pt × Int)} (he : Ev X env e (.list (F.map sqD))) : ItE X env tg e F.length (fun m => .tuple [ptD (F.getD m e0).1, .int (F.getD m e0).2]) := by
  have h := ite_list (tg := tg) he
  rw [List.length_map] at h
  exact h.congr fun m hm => getD_sq F m hm
theorem its_sqs {X : Cx} {H0 : Hp} {env : En} {tg e : Expr} {F : List (Pt × Int)} (he : EvL X env e (F.map sqD)) : ItS X H0 env tg e F.length (fun m => .tuple [ptD (F.getD m e0).1, .int (F.getD m e0).2]) := by
  have h := its_new (H0 := H0) (tg := tg) he (fzs_map fun e => rfl)
  rw [List.length_map] at h
  exact h.congr fun m hm => getD_sq F m hm
theorem dfold_take (F : List (Pt × Int)) (i : Nat) (h : i < F.length) : dfold (F.take (i + 1)) = dput (dfold (F.take i)) (F.getD i e0).1 (F.getD i e0).2 := by rw [take_getD F e0 i h, dfold_snoc]
theorem atI_sq (F : List (Pt × Int)) (i : Nat) (h : i < F.length) : atI (F.map sqD) (i : Int) = some (.tuple [ptD (F.getD i e0).1, .int (F.getD i e0).2]) := atI_nat (by
  rw [List.getElem?_map, List.getD_eq_getElem?_getD, List.getElem?_eq_getElem h]
  rfl)
end Sw

namespace Sw
open PySem PySem.Spec PyProof.Rows L2
local macro_rules | `(tactic| walk_at "vis") => `(tactic| first | exact .inl rfl | exact .inr (.inl rfl) | exact .inr (.inr rfl))
local macro_rules | `(tactic| walk_at "loc") => `(tactic| first | exact .inl rfl | exact .inr rfl)
local macro_rules | `(tactic| walk_at "str") => `(tactic| first | with_reducible exact s_ | with_reducible exact s_n | with_reducible exact s_w | with_reducible exact s_s | with_reducible exact s_e | with_reducible exact s_ns | with_reducible exact s_nwse | with_reducible exact s_nesw)
local macro_rules | `(tactic| walk_at "len") => `(tactic| first | omega | (simp; done) | (simp; omega))
local macro_rules | `(tactic| walk_at "bin") => `(tactic| first | with_reducible exact bin_addI | with_reducible exact bin_subI | with_reducible exact bin_modI (by omega) | with_reducible exact bin_addW (by walk_at "len"))
local macro_rules | `(tactic| walk_at "cmp") => `(tactic| first | with_reducible exact cmp_eqI | with_reducible exact cmp_neI | with_reducible exact cmp_eqW | with_reducible exact cmp_neW | with_reducible exact cmp_eqLn | with_reducible exact cmp_eqLw | with_reducible exact cmp_eqLs | with_reducible exact cmp_eqLe | with_reducible exact cmp_neLn | with_reducible exact cmp_neLw | with_reducible exact cmp_neLs | with_reducible exact cmp_neLe | with_reducible exact cmp_eqW0 | with_reducible exact cmp_neW0 | with_reducible exact cmp_eqL | with_reducible exact cmp_neL | with_reducible exact cmp_eqS | with_reducible exact cmp_neS | with_reducible exact cmp_ltI | with_reducible exact cmp_leI | with_reducible exact cmp_gtI | with_reducible exact cmp_geI | with_reducible exact cmp_inL | with_reducible exact cmp_inS)
local macro_rules | `(tactic| walk_at "mark") => `(tactic| first | exact nomark _ | rfl)
local macro_rules | `(tactic| walk_at "ea") => `(tactic| first | with_reducible exact ea_nil | (refine' ea_cons ?e ?r; (case e => walk_at "ev"); (case r => walk_at "ea")))
local macro_rules | `(tactic| walk_at "el") => `(tactic| first
  | (refine' evl_call (by assumption) (by assumption) (by decide) rfl ?a ?r; (case a => walk_at "ea"); (case r => walk_at "rel"))
  | (refine' evl_lst ?a ?l; (case a => walk_at "ea"); (case l => simp)))
local macro_rules | `(tactic| walk_at "ev") => `(tactic| first
  | with_reducible exact ev_int
  | (refine' ev_nm rfl ?v rfl rfl; (case v => walk_at "vis"))
  | (refine' ev_strS ?h; (case h => walk_at "str"))
  | (refine' ev_tup ?a ?l; (case a => walk_at "ea"); (case l => simp))
  | (refine' ev_bin ?a ?b ?r; (case a => walk_at "ev"); (case b => walk_at "ev"); (case r => walk_at "bin"))
  | (refine' ev_un ?a ?r; (case a => walk_at "ev"); (case r => exact un_negI))
  | (refine' ev_call (by assumption) (by assumption) (by decide) rfl ?a ?r; (case a => walk_at "ea"); (case r => walk_at "rel"))
  | (refine' ev_callB ?c rfl ?m ?b ?a; (case b => walk_at "boot"); (case a => walk_at "ea"); (case m => walk_at "blt"); (case c => walk_at "call"))
  | (refine' ev_isi ?e rfl ?m rfl ?n ?b ?t ?k ?d; (case b => walk_at "boot"); (case e => walk_at "ev"); (case m => walk_at "blt"); (case n => walk_at "blt"); (case t => walk_at "ty"); (case k => walk_at "kit"); (case d => decide))
  | (refine' ev_m1 PySem.F.slot_str_count PySem.F.type_str_count ?m ?t ?o ?e; (case o => walk_at "ev"); (case t => walk_at "ty"); (case e => walk_at "ev"); (case m => first | with_reducible exact mt_countWn | with_reducible exact mt_countWw | with_reducible exact mt_countWs | with_reducible exact mt_countWe))
  | (refine' ev_m1 PySem.F.slot_str_index PySem.F.type_str_index ?m ?t ?o ?e; (case o => walk_at "ev"); (case t => walk_at "ty"); (case e => walk_at "ev"); (case m => exact mt_indexW))
  | (refine' ev_m1 PySem.F.slot_str_strip PySem.F.type_str_strip ?m ?t ?o ?e; (case o => walk_at "ev"); (case t => walk_at "ty"); (case e => walk_at "ev"); (case m => exact mt_stripW (by walk_at "len")))
  | (refine' ev_ix ?a ?b ?r; (case a => walk_at "ev"); (case b => walk_at "ev"); (case r => walk_at "ix"))
  | (refine' EvL.d ?a; (case a => walk_at "el"))
  | exact ev_globS rfl (by assumption)
  | with_reducible exact ev_bl | with_reducible exact ev_non)
local macro_rules | `(tactic| walk_at "blt") => `(tactic| first
  | exact Blt.isinstance (by assumption) | exact Blt.int (by assumption) | exact Blt.bool (by assumption) | exact Blt.str (by assumption) | exact Blt.list (by assumption) | exact Blt.tuple (by assumption) | exact Blt.range (by assumption) | exact Blt.len (by assumption) | exact Blt.sum (by assumption) | exact Blt.abs (by assumption) | exact Blt.min (by assumption) | exact Blt.all (by assumption) | exact Blt.any (by assumption) | exact Blt.sorted (by assumption) | exact Blt.set (by assumption) | exact Blt.enumerate (by assumption) | exact Blt.zip (by assumption) | exact Blt.reversed (by assumption))
local macro_rules | `(tactic| walk_at "call") => `(tactic| first | exact ev_lenW (by walk_at "len") | exact call_lenL | exact call_lenT | exact call_absI | exact call_minI rfl | exact call_sumI rfl)
local macro_rules | `(tactic| walk_at "et") => `(tactic| (refine' EvT.is ?a ?b; (case a => walk_at "et0"); (case b => rfl)))
local macro_rules | `(tactic| walk_at "evg") => `(tactic| (refine' Ev.is ?a ?b; (case a => walk_at "ev"); (case b => rfl)))
local macro_rules | `(tactic| walk_at "et0") => `(tactic| first
  | (refine' et_not ?a; (case a => walk_at "et0"))
  | (refine' et_cmp ?a ?b ?r ?m; (case a => walk_at "ev"); (case b => walk_at "ev"); (case r => walk_at "cmp"); (case m => walk_at "mark"))
  | (refine' et_val ?a ?h; (case a => walk_at "ev"); (case h => (intro _; rfl))))
local macro_rules | `(tactic| walk_at "boot") => `(tactic| first | with_reducible exact b_int | with_reducible exact b_bool | with_reducible exact b_str | with_reducible exact b_list | with_reducible exact b_tuple | with_reducible exact b_range | with_reducible exact b_set | with_reducible exact b_enumerate | with_reducible exact b_zip | with_reducible exact b_reversed | with_reducible exact b_isinstance | with_reducible exact b_len | with_reducible exact b_sum | with_reducible exact b_abs | with_reducible exact b_min | with_reducible exact b_all | with_reducible exact b_any | with_reducible exact b_sorted)
local macro_rules | `(tactic| walk_at "ix") => `(tactic| first | exact ix_lett)
local macro_rules | `(tactic| walk_at "kit") => `(tactic| first | with_reducible exact k_int_int | with_reducible exact k_int_bool | with_reducible exact k_int_str | with_reducible exact k_int_list | with_reducible exact k_int_tuple | with_reducible exact k_bool_int | with_reducible exact k_bool_bool | with_reducible exact k_bool_str | with_reducible exact k_bool_list | with_reducible exact k_bool_tuple | with_reducible exact k_str_int | with_reducible exact k_str_bool | with_reducible exact k_str_str | with_reducible exact k_str_list | with_reducible exact k_str_tuple | with_reducible exact k_list_int | with_reducible exact k_list_bool | with_reducible exact k_list_str | with_reducible exact k_list_list | with_reducible exact k_list_tuple | with_reducible exact k_tuple_int | with_reducible exact k_tuple_bool | with_reducible exact k_tuple_str | with_reducible exact k_tuple_list | with_reducible exact k_tuple_tuple | with_reducible exact k_NoneType_int | with_reducible exact k_NoneType_bool | with_reducible exact k_NoneType_str | with_reducible exact k_NoneType_list | with_reducible exact k_NoneType_tuple)
local macro_rules | `(tactic| walk_at "ty") => `(tactic| first | with_reducible exact ty_int | with_reducible exact ty_W | with_reducible exact ty_ptD | with_reducible exact ty_bool | with_reducible exact ty_str | with_reducible exact ty_list | with_reducible exact ty_tuple | with_reducible exact ty_none)
local macro_rules | `(tactic| walk_at "rel") => `(tactic| first | exact ⟨_, by walk_at "len", rfl, rfl⟩ | exact ⟨_, _, by walk_at "len", rfl, rfl⟩ | exact ⟨_, rfl, rfl⟩ | exact ⟨_, _, rfl, rfl⟩)
local macro_rules | `(tactic| walk_at "ix") => `(tactic| first | exact ix_lett | exact ix_nesw)
local macro_rules | `(tactic| walk_at "le") => `(tactic| repeat first | exact .nil | refine .keep rfl ?_ | refine .skip ?_)
/-! ### where a walk meets itself -/
def ownP (v : Wk) : List Pt := if v ≠ [] ∧ goAll (0, 0) v = (0, 0) then (pls0 v).dropLast else pls0 v
def ROwn : List PyData → List PyData → Prop := fun ds r => ∃ v : Wk, v.length ≤ 9000 ∧ ds = [W v] ∧ r = (ownP v).map ptD
def pAt (v : Wk) (i : Nat) : Pt := (ownP v).getD i (0, 0)
def obT (C2 : Addr) (i j : Nat) : PyData := ob C2 ["first", "second"] [.int (i : Nat), .int (j : Nat)]
/-- two moments at one place, the second as early as can be -/
structure Meet (v : Wk) (i j : Nat) : Prop where
  lt : i < j
  ln : j < (ownP v).length
  eq : pAt v i = pAt v j
  nd : ((ownP v).take j).Nodup
def RMeets (C1 C2 : Addr) : List PyData → PyData → Prop := fun ds r => ∃ v : Wk, v.length ≤ 9000 ∧ ds = [W v] ∧ (((ownP v).Nodup ∧ r = obP C1 ((srtP (ownP v)).map ptD)) ∨ ∃ i j, Meet v i j ∧ r = obT C2 i j)
theorem ownP_len (v : Wk) : (ownP v).length ≤ v.length + 1 := by
  unfold ownP
  split
  · rw [List.length_dropLast, pls0_len]; omega
  · rw [pls0_len]; exact Nat.le_refl _
theorem obT_ne (C2 : Addr) (i j : Nat) (C : Addr) (ds : List PyData) : obT C2 i j ≠ obP C ds := fun z => by
  unfold obT obP ob obK at z
  injection z with z
  injection z with z1 z2
  injection z1 with z1 z3
  injection z3 with z3
  exact absurd (congrArg List.length z3) (by decide)
/-- which places were seen, when -/
def seenD (v : Wk) (i : Nat) : Cr := dfold ((List.range i).map fun j => (pAt v j, (j : Int)))
theorem seenD_succ (v : Wk) (i : Nat) : seenD v (i + 1) = dput (seenD v i) (pAt v i) (i : Int) := by
  unfold seenD
  rw [List.range_succ, List.map_append]
  exact dfold_snoc _ _
theorem seenD_len (v : Wk) (i : Nat) : (seenD v i).length ≤ i := by
  have := dfold_len ((List.range i).map fun j => (pAt v j, (j : Int)))
  rw [List.length_map, List.length_range] at this
  exact this
theorem seenD_keys (v : Wk) (q : Pt) : ∀ i, q ∈ keys (seenD v i) ↔ ∃ j, j < i ∧ pAt v j = q
  | 0 => by
    constructor
    · intro h; cases h
    · rintro ⟨j, h, _⟩; cases h
  | i + 1 => by
    rw [seenD_succ, keys_put]
    have ih := seenD_keys v q i
    split
    · rename_i hk
      rw [ih]
      constructor
      · rintro ⟨j, h1, h2⟩; exact ⟨j, by omega, h2⟩
      · rintro ⟨j, h1, h2⟩
        by_cases e : j = i
        · subst e
          rw [h2] at hk
          obtain ⟨m, g1, g2⟩ := ih.mp hk
          exact ⟨m, g1, g2⟩
        · exact ⟨j, by omega, h2⟩
    · rw [List.mem_append, ih, List.mem_singleton]
      constructor
      · rintro (⟨j, h1, h2⟩ | h)
        · exact ⟨j, by omega, h2⟩
        · exact ⟨i, by omega, h.symm⟩
      · rintro ⟨j, h1, h2⟩
        by_cases e : j = i
        · subst e
          exact .inr h2.symm
        · exact .inl ⟨j, by omega, h2⟩
theorem mval_seen (D : Cr) (q : Pt) : (mval (encD D) (K2 q)).isSome = decide (q ∈ keys D) := by
  rw [mval_enc]
  by_cases h : q ∈ keys D
  · obtain ⟨e, he, h1⟩ := List.mem_map.mp h
    rw [decide_eq_true h]
    cases hf : D.find? fun e => decide (e.1 = q) with
    | none =>
      rw [List.find?_eq_none] at hf
      exact absurd (decide_eq_true h1) (hf e he)
    | some e' => rfl
  · rw [decide_eq_false h]
    cases hf : D.find? fun e => decide (e.1 = q) with
    | none => rfl
    | some e' =>
      have h1 := List.mem_of_find?_eq_some hf
      have h2 := List.find?_some hf
      exact absurd (List.mem_map.mpr ⟨e', h1, of_decide_eq_true h2⟩) h
theorem pAt_at (v : Wk) (i : Nat) (h : i < (ownP v).length) : (ownP v)[i]? = some (pAt v i) := by
  unfold pAt
  rw [List.getD_eq_getElem?_getD, List.getElem?_eq_getElem h]
  rfl
theorem pAt_inj {v : Wk} {n i j : Nat} (nd : ((ownP v).take n).Nodup) (hn : n ≤ (ownP v).length) (hi : i < n) (hj : j < n) (h : pAt v i = pAt v j) : i = j := by
  have h1 : ((ownP v).take n)[i]? = ((ownP v).take n)[j]? := by
    rw [List.getElem?_take_of_lt hi, List.getElem?_take_of_lt hj, pAt_at v i (by omega), pAt_at v j (by omega), h]
  exact (List.getElem?_inj (by rw [List.length_take]; omega) nd).mp h1
theorem nodup_next {v : Wk} {i : Nat} (nd : ((ownP v).take i).Nodup) (hi : i < (ownP v).length) (hno : ¬ ∃ j, j < i ∧ pAt v j = pAt v i) : ((ownP v).take (i + 1)).Nodup := by
  rw [take_getD (ownP v) (0, 0) i hi]
  refine List.nodup_append.mpr ⟨nd, by simp, fun a ha b hb => ?_⟩
  rw [List.mem_singleton] at hb
  subst hb
  intro z
  obtain ⟨j, hj, h1⟩ := List.mem_iff_getElem.mp ha
  rw [List.length_take] at hj
  refine hno ⟨j, by omega, ?_⟩
  rw [List.getElem_take] at h1
  have h2 := pAt_at v j (by omega)
  rw [List.getElem?_eq_getElem (by omega)] at h2
  exact ((Option.some.inj h2).symm.trans h1).trans z
theorem range_pAt (v : Wk) (i : Nat) (hi : i ≤ (ownP v).length) : (List.range i).map (fun j => pAt v j) = (ownP v).take i := by
  apply List.ext_getElem
  · simp
    omega
  · intro j h1 h2
    have hj : j < i := by simpa using h1
    have h3 := pAt_at v j (by omega)
    rw [List.getElem?_eq_getElem (by omega)] at h3
    rw [List.getElem_map, List.getElem_range, List.getElem_take]
    exact (Option.some.inj h3).symm
theorem meet_uniq {v : Wk} {i j i' j' : Nat} (h : Meet v i j) (h' : Meet v i' j') : i = i' ∧ j = j' := by
  have hj : j = j' := by
    rcases Nat.lt_trichotomy j j' with z | z | z
    · exact absurd (pAt_inj h'.nd (Nat.le_of_lt h'.ln) (Nat.lt_trans h.lt z) z h.eq) (Nat.ne_of_lt h.lt)
    · exact z
    · exact absurd (pAt_inj h.nd (Nat.le_of_lt h.ln) (Nat.lt_trans h'.lt z) z h'.eq) (Nat.ne_of_lt h'.lt)
  subst hj
  exact ⟨pAt_inj h.nd (Nat.le_of_lt h.ln) h.lt h'.lt (h.eq.trans h'.eq.symm), rfl⟩
theorem meet_no {v : Wk} {i j : Nat} (h : Meet v i j) (nd : (ownP v).Nodup) : False := by
  have e : (ownP v).take (ownP v).length = ownP v := List.take_length
  have := pAt_inj (n := (ownP v).length) (by rw [e]; exact nd) (Nat.le_refl _) (Nat.lt_trans h.lt h.ln) h.ln h.eq
  exact absurd this (Nat.ne_of_lt h.lt)
theorem seen_get {v : Wk} {i j : Nat} (nd : ((ownP v).take i).Nodup) (hi : i ≤ (ownP v).length) (hj : j < i) (q : Pt) (h : pAt v j = q) : dget (seenD v i) q = (j : Int) := by
  refine (dfold_get _ ((List.range i).map fun j => (pAt v j, (j : Int))) rfl ?_ q).1 _ ?_
  · rw [List.map_map]
    have e := range_pAt v i hi
    have e2 : ((fun x : Pt × Int => x.1) ∘ fun (j : Nat) => (pAt v j, (j : Int))) = fun j => pAt v j := rfl
    rw [e2, e]
    exact nd
  · exact List.mem_map.mpr ⟨j, List.mem_range.mpr hj, by rw [h]⟩
section
variable {P : Program} {w : World} {K : PySem.W.Frag} {mg : Str → Option Value} {base : Heap}
theorem ok_own_places (F : Df K mg "own_places" s_own_places ["walk"]) (hb : Blt mg) (c1 : Cd P w K mg base 2 "walked" (spL K RWalked)) : Cd P w K mg base 3 "own_places" (spL K ROwn) := by
  refine cdL F sc_own_places (fun ds r ⟨_, _, e, _⟩ => by rw [e]; rfl) fun f cdv A outer s H E hr nd ds r D ⟨v, hv, e1, e2⟩ hD => ?_
  subst e1 e2
  refine run_env (e' := [some (.d (W v)), none]) rfl ?_
  refine rs_L (ds := (pls0 v).map ptD) rfl nd (by walk_at "loc") (by walk_at "el") (fzs_map fun p => rfl) ?_
  refine run_join2 (fun l : List Pt => [some (.d (W v)), some (.l (l.map ptD))]) (fun l => l = ownP v) (fun tail => ?_) fun l hl => ?_
  · have h1 : atI ((pls0 v).map ptD) 0 = some (ptD (0, 0)) := atI_nat (j := 0) (by cases v <;> rfl)
    have h2 := pls0_last v
    have hlen : ((pls0 v).map ptD).length = v.length + 1 := by rw [List.length_map, pls0_len]
    refine run_if (z := decide (v ≠ []) && decide (goAll (0, 0) v = (0, 0))) (et_w (ew_and (x := decide (v ≠ [])) (EvT.is (et_cmp (x := .int ((((pls0 v).map ptD).length : Nat) : Int)) (by walk_at "ev") ev_int cmp_gtI (nomark _)) ?_) fun _ => ew_and1 (et_cmp (ev_ix (by walk_at "ev") ev_int (ix_L h1)) (ev_ix (by walk_at "ev") (ev_un ev_int un_negI) (ix_L h2)) (cmp_eqD (b := decide (goAll (0, 0) v = (0, 0))) hr rfl rfl ?_) (nomark _)))) (fun z => ?_) (fun z => ?_)
    · rw [hlen]
      by_cases h : v = []
      · subst h
        rfl
      · have h3 : 0 < v.length := List.length_pos_iff.mpr h
        rw [decide_eq_true h]
        exact decide_eq_true (by omega)
    · rw [decide_eq_true_iff]
      constructor
      · intro h; rw [h]
      · intro h; exact (ptD_inj h).symm
    · simp only [Bool.and_eq_true, decide_eq_true_eq] at z
      refine rs_pop rfl (by walk_at "vis") rfl (by intro h; have := congrArg List.length h; rw [hlen] at this; cases this) (run_nx ?_)
      have := tail (pls0 v).dropLast (by unfold ownP; rw [if_pos z])
      rw [List.map_dropLast] at this
      exact this
    · refine run_nx (tail (pls0 v) ?_)
      unfold ownP
      rw [if_neg]
      intro h
      rw [decide_eq_true h.1, decide_eq_true h.2] at z
      cases z
  · subst hl
    exact rs_retN rfl (by walk_at "vis") rfl hD
variable {C1 C2 : Addr}
theorem init1_ok {f : Addr} {fd : FuncData} (F : Fun K "__init__" "Simple.__init__" s_Simple___init__ f fd) (hb : Blt mg) (hC : Cls K C1) (hn : NoAttr K C1 "places") : FnOk P w K mg base CX0 1 f fd ["self", "places"] (spI1 K C1) := by
  refine F.ok sc_Simple___init__ (fun vs H Q E h => ?_) (fun cdv A outer s H vs Q E hr h => ?_)
  · obtain ⟨p, dx, l0, xs, rfl, _⟩ := h
    rfl
  · obtain ⟨p, dx, l0, xs, rfl, hp, hS, k⟩ := h
    refine ⟨_, pss_one (ps_fld (pv 0) (pe_callTy call_list_of rfl hb.list b_list (pa_cons (pv 1) pa_nil)) rfl), ?_⟩
    refine ⟨_, rfl, l0, xs, rfl, .inl hS, fun l hl => ⟨_, rfl, p, C1, dx, [], rfl, ?_, hC, hn, (by show 0 < 1000; decide), k l hl⟩⟩
    rw [upd_ne (fun z => by rw [z, hl] at hp; cases hp)]
    exact hp
theorem init2_ok {f : Addr} {fd : FuncData} (F : Fun K "__init__" "Twice.__init__" s_Twice___init__ f fd) (hC : Cls K C2) (hn1 : NoAttr K C2 "first") (hn2 : NoAttr K C2 "second") : FnOk P w K mg base CX0 1 f fd ["self", "first", "second"] (spI2 K C2) := by
  refine F.ok sc_Twice___init__ (fun vs H Q E h => ?_) (fun cdv A outer s H vs Q E hr h => ?_)
  · obtain ⟨p, dx, i, j, rfl, _⟩ := h
    rfl
  · obtain ⟨p, dx, i, j, rfl, hp, k⟩ := h
    refine ⟨_, pss_cons (ps_fld (pv 0) (pv 1) rfl) (pss_one (ps_fld (pv 0) (pv 2) rfl)), ?_⟩
    exact ⟨_, rfl, _, rfl, p, C2, dx, [], rfl, hp, hC, hn1, (by show 0 < 1000; decide), _, rfl, _, rfl, p, C2, dx, _, rfl, upd_same, hC, hn2, (by show 1 < 1000; decide), k⟩
theorem ok_meets (F : Df K mg "meets" s_meets ["walk"]) (hb : Blt mg) (c1 : Cd P w K mg base 1 "asked_walk" (spD K RAskW)) (c2 : Cd P w K mg base 3 "own_places" (spL K ROwn)) (m1 : MkD P w K mg base 1 "Simple" C1 (spI1 K C1)) (m2 : MkD P w K mg base 1 "Twice" C2 (spI2 K C2)) : Cd P w K mg base 4 "meets" (spF K (RMeets C1 C2)) := by
  refine cdF F sc_meets (fun ds r ⟨_, _, e, _⟩ => by rw [e]; rfl) (fun f cdv A outer s H E hr nd ds r D ⟨v, hv, e1, hR⟩ hD => ?_) (fun ds ⟨v, _, _, h⟩ => ?_)
  · subst e1
    have hol := ownP_len v
    refine run_env (e' := [some (.d (W v)), none, none, none, none]) rfl ?_
    refine run_expr (d := .none) (by walk_at "ev") ?_
    refine rs_M rfl nd (by walk_at "loc") ?_
    refine run_setLD (ds := (ownP v).map ptD) rfl nd (by walk_at "loc") (by walk_at "el") (fzs_map fun p => rfl) ?_
    have hI : ∀ {X : Cx} {H0 : Hp} {env : En} {tg it : Expr}, ItS X H0 env tg it ((ownP v).map ptD).length (fun i => .tuple [.int (i : Nat), ((ownP v).map ptD).getD i .none]) → ItS X H0 env tg it (ownP v).length (fun i => .tuple [.int (i : Nat), ptD (pAt v i)]) := fun h => by
      rw [List.length_map] at h
      exact h.congr fun i hi => by rw [its_ptE i hi]; rfl
    refine rs_forI2 (n := (ownP v).length) (u := fun i => .int (i : Nat)) (v := fun i => ptD (pAt v i)) (fun i => [some (.d (W v)), some (.m (encD (seenD v i))), some (.d (.list ((ownP v).map ptD))), none, none]) (fun i => ((ownP v).take i).Nodup) rfl rfl nd (by walk_at "loc") (by walk_at "loc") PassesOwn.never (hI (its_enumV 2 rfl hb.enumerate rfl (by walk_at "vis") rfl)) (by walk_at "le") (by simp) (fun i _ => ⟨rfl, rfl⟩) (fun i Hl D' hi hIi hs hn hrt => ?_) (fun hn => ?_)
    · have hkeys := seenD_keys v (pAt v i) i
      have hsl := seenD_len v i
      refine run_if (z := decide (pAt v i ∈ keys (seenD v i))) (EvT.is (et_min (k := K2 (pAt v i)) hr rfl (by walk_at "vis") rfl (by walk_at "evg")) (mval_seen _ _)) (fun z => ?_) (fun z => run_nx ?_)
      · obtain ⟨j, hj, he⟩ := hkeys.mp (ofT z)
        have M : Meet v j i := ⟨hj, hi, he, hIi⟩
        have hr2 : r = obT C2 j i := by
          rcases hR with ⟨h1, _⟩ | ⟨a, b, h1, h2⟩
          · exact (meet_no M h1).elim
          · obtain ⟨rfl, rfl⟩ := meet_uniq M h1
            exact h2
        have hg := seen_get hIi (Nat.le_of_lt hi) hj (pAt v i) he
        have hval : mval (encD (seenD v i)) (K2 (pAt v i)) = some (.int (j : Nat)) := by
          have hs1 := mval_seen (seenD v i) (pAt v i)
          rw [z] at hs1
          rw [mval_enc] at hs1 ⊢
          unfold dget at hg
          cases q : (seenD v i).find? fun e => decide (e.1 = pAt v i) with
          | none => rw [q] at hs1; cases hs1
          | some e =>
            rw [q] at hg
            have : e.2 = (j : Int) := hg
            show some (PyData.int e.2) = _
            rw [this]
        rw [hr2] at hD
        refine run_retF (ev_mk2 m2 hr (by decide) rfl (ev_mget (k := K2 (pAt v i)) hr rfl (by walk_at "vis") rfl (by walk_at "evg") hval) (by walk_at "ev")) (obT_ne C2 j i) ?_
        have h3 : RtF K Hl D (obT C2 j i) := hD.mono hs
        intro vv H' s1 f1
        show D'.rt vv H'
        rw [hrt]
        exact h3 vv H' s1 f1
      · refine run_mput (k := K2 (pAt v i)) (d := .int (i : Nat)) hr rfl (by walk_at "vis") rfl (by walk_at "evg") (by walk_at "ev") rfl (by rw [encD_len]; omega) (run_turnI hn (nodup_next hIi hi fun ⟨j, hj, he⟩ => ofF z (hkeys.mpr ⟨j, hj, he⟩)) ?_)
        rw [mput_enc, seenD_succ]
        walk_at "le"
    · rw [List.take_length] at hn
      have hr2 : r = obP C1 ((srtP (ownP v)).map ptD) := by
        rcases hR with ⟨_, h1⟩ | ⟨a, b, h1, _⟩
        · exact h1
        · exact (meet_no h1 hn).elim
      rw [hr2] at hD
      refine run_retO (evo_mk m1 hr (by decide) rfl (EvL.d (EvL.is (evl_callB (call_sortedL hr (noDs_map fun p => rfl) (alike_pts _) (sortable_pts _) (by rw [List.length_map]; omega) (fun d hd => ?_)) rfl hb.sorted b_sorted (ea_cons (by walk_at "ev") ea_nil)) (srt_by ptD (ownP v)))) (fzs_map fun p => rfl)) hD
      obtain ⟨e, _, rfl⟩ := List.mem_map.mp hd
      simp [ptD, PyData.depth, PyData.depthAll]
  · rcases h with ⟨_, h⟩ | ⟨a, b, _, h⟩
    · cases h
    · cases h
end
/-! ### simple loops: turns, the places within -/
structure Loop (v : Wk) : Prop where
  ln : v.length ≤ 700
  l4 : 4 ≤ v.length
  cl : goAll (0, 0) v = (0, 0)
  nd : (ownP v).Nodup
def RLoopA : List PyData → PyData → Prop := fun ds r => ∃ v : Wk, Loop v ∧ ds = [W v] ∧ r = .none
def prv (v : Wk) (i : Nat) : Dr := v.getD ((i + v.length - 1) % v.length) .n
def tw1 (v : Wk) (i : Nat) : Int := (((v.getD i .n).ix : Int) - ((prv v i).ix : Int)) % 4
def tws (v : Wk) : List Int := (List.range v.length).map (tw1 v)
def RTurns : List PyData → PyData → Prop := fun ds r => ∃ v : Wk, Loop v ∧ ds = [W v] ∧ r = .tuple [.int ((tws v).count 1 : Nat), .int ((tws v).count 3 : Nat)]
theorem prv_at (v : Wk) (i : Nat) (h : i < v.length) : atI v ((i : Int) - 1) = some (prv v i) := by
  unfold prv
  cases i with
  | zero =>
    have e : (0 + v.length - 1) % v.length = v.length - 1 := by
      rw [Nat.zero_add]
      exact Nat.mod_eq_of_lt (by omega)
    rw [e]
    have := atI_neg1 v (v.getD (v.length - 1) .n) (by
      rw [List.getLast?_eq_getElem?, List.getD_eq_getElem?_getD, List.getElem?_eq_getElem (by omega)]
      rfl)
    exact this
  | succ i =>
    have e : (i + 1 + v.length - 1) % v.length = i := by
      rw [show i + 1 + v.length - 1 = i + v.length by omega, Nat.add_mod_right]
      exact Nat.mod_eq_of_lt (by omega)
    rw [e, show ((i + 1 : Nat) : Int) - 1 = (i : Int) by omega]
    refine atI_nat ?_
    rw [List.getD_eq_getElem?_getD, List.getElem?_eq_getElem (by omega)]
    rfl
theorem dfold_nd : ∀ (n : Nat) (L : List (Pt × Int)), L.length = n → (L.map (·.1)).Nodup → dfold L = L := by
  intro n
  induction n with
  | zero => intro L h _; rw [List.eq_nil_of_length_eq_zero h]; rfl
  | succ n ih =>
    intro L h nd
    rcases List.eq_nil_or_concat L with rfl | ⟨M, e, rfl⟩
    · rfl
    · rw [List.concat_eq_append] at h nd ⊢
      rw [List.length_append] at h
      rw [List.map_append] at nd
      have nd' := List.nodup_append.mp nd
      rw [dfold_snoc, ih M (by simpa using h) nd'.1]
      unfold dput
      rw [if_neg]
      intro z
      obtain ⟨x, hx, h1⟩ := List.any_eq_true.mp z
      exact nd'.2.2 x.1 (List.mem_map.mpr ⟨x, hx, rfl⟩) e.1 (by simp) (of_decide_eq_true h1)
def isIn (v : Wk) (q : Pt) : Prop := wn (0, 0) v q.1 q.2 ≠ 0
instance (v : Wk) (q : Pt) : Decidable (isIn v q) := by unfold isIn; infer_instance
/-- the four squares at a corner are within -/
def four (v : Wk) (q : Pt) : Bool := decide (isIn v (q.1 - 1, q.2)) && (decide (isIn v (q.1, q.2 - 1)) && decide (isIn v (q.1 - 1, q.2 - 1)))
noncomputable def inner (v : Wk) : List Pt := srtP (((sqF v).map (·.1)).filter (four v))
def RWithin : List PyData → List PyData → Prop := fun ds r => ∃ v : Wk, Loop v ∧ ds = [W v] ∧ r = (inner v).map ptD
theorem sqF_keys {v : Wk} (h : goAll (0, 0) v = (0, 0)) (q : Pt) : q ∈ (sqF v).map (·.1) ↔ isIn v q := by
  constructor
  · intro z
    obtain ⟨e, he, rfl⟩ := List.mem_map.mp z
    have := (sqF_mem h e).mp he
    unfold isIn
    rw [← this.1]
    exact this.2
  · intro z
    exact List.mem_map.mpr ⟨(q, _), (sqF_mem h (q, wn (0, 0) v q.1 q.2)).mpr ⟨rfl, z⟩, rfl⟩
theorem e0_def : e0 = ((0, 0), 0) := rfl
section
variable {P : Program} {w : World} {K : PySem.W.Frag} {mg : Str → Option Value} {base : Heap} {C1 C2 : Addr}
theorem ok_asked_loop (F : Df K mg "asked_loop" s_asked_loop ["walk"]) (hb : Blt mg) (c1 : Cd P w K mg base 3 "asked_closed" (spD K RAskC)) (c2 : Cd P w K mg base 4 "meets" (spF K (RMeets C1 C2))) (hT : Ty1 K C1) (hm : mg "Twice" = some (.ref C2)) (hk : PySem.W.kitOne K (.ref C1) (.ref C2) = some false) : Cd P w K mg base 5 "asked_loop" (spD K RLoopA) := by
  refine cdD F sc_asked_loop (fun ds r ⟨_, _, e, _⟩ => by rw [e]; rfl) fun f cdv A outer s H E hr nd ds r D ⟨v, hv, e1, e2⟩ hD hN => ?_
  subst e1 e2
  have h1 := hv.ln
  have h2 := hv.l4
  refine run_env (e' := [some (.d (W v))]) rfl ?_
  refine run_expr (d := .none) (ev_call c1 hr (by decide) rfl (ea_cons (by walk_at "ev") ea_nil) ⟨v, by omega, hv.cl, rfl, rfl⟩) ?_
  refine run_ifF0 (et_w (ew_oF (EvT.is (et_cmp (by walk_at "ev") ev_int cmp_ltI (nomark _)) (decide_eq_false (by omega))) (ew_or1 (et_val (ev_isiO (ev_callF c2 hr (by decide) rfl (ea_cons (by walk_at "ev") ea_nil) ⟨v, by omega, rfl, .inl ⟨hv.nd, rfl⟩⟩) hT rfl hb.isinstance rfl hm hk))))) ?_
  exact run_fall (hN rfl)
theorem ok_turns (F : Df K mg "turns" s_turns ["walk"]) (hb : Blt mg) (hL : ∃ t, mg "LETTERS" = some (.str (SX.S [110, 119, 115, 101]) t)) (c1 : Cd P w K mg base 5 "asked_loop" (spD K RLoopA)) : Cd P w K mg base 6 "turns" (spD K RTurns) := by
  refine cdD F sc_turns (fun ds r ⟨_, _, e, _⟩ => by rw [e]; rfl) fun f cdv A outer s H E hr nd ds r D ⟨v, hv, e1, e2⟩ hD hN => ?_
  subst e1 e2
  obtain ⟨t, ht⟩ := hL
  have h1 := hv.ln
  refine run_env (e' := [some (.d (W v)), none, none, none]) rfl ?_
  refine run_expr (d := .none) (ev_call c1 hr (by decide) rfl (ea_cons (by walk_at "ev") ea_nil) ⟨v, hv, rfl, rfl⟩) ?_
  refine rs_L (ds := []) rfl nd (by walk_at "loc") (evl_lst ea_nil) rfl ?_
  have hI : ∀ {X : Cx} {H0 : Hp} {env : En} {tg it : Expr}, ItS X H0 env tg it (cps v).length (fun i => .tuple [.int (i : Nat), .str (SX.S [(cps v).getD i 0])]) → ItS X H0 env tg it v.length (fun i => .tuple [.int (i : Nat), L1 (v.getD i .n)]) := fun h => by
    rw [cps_len] at h
    exact h.congr fun i hi => by rw [cps_getD v i hi]; rfl
  refine rs_for2 (n := v.length) (u := fun i => .int (i : Nat)) (v := fun i => L1 (v.getD i .n)) (fun i => [some (.d (W v)), some (.l (((List.range i).map (tw1 v)).map PyData.int)), none, none]) rfl rfl nd (by walk_at "loc") (by walk_at "loc") PassesOwn.never (hI (its_enumS rfl hb.enumerate (by walk_at "ev"))) (by walk_at "le") (fun i _ => ⟨rfl, rfl⟩) (fun i Hl D' hi hs hn hrt => ?_) ?_
  · have hp := prv_at v i hi
    refine rs_app rfl (by walk_at "vis") rfl (d := .int (tw1 v i)) (ev_bin (ev_bin (by walk_at "ev") (ev_m1 PySem.F.slot_str_index PySem.F.type_str_index mt_indexW rfl (ev_globS rfl (by assumption)) (ev_ix (by walk_at "ev") (ev_bin (by walk_at "ev") ev_int bin_subI) (ix_W hp (by omega)))) bin_subI) ev_int (bin_modI (by decide))) rfl (by rw [List.length_map, List.length_map, List.length_range]; omega) (run_turn hn ?_)
    rw [List.range_succ, List.map_append, List.map_append]
    walk_at "le"
  · exact run_ret (ev_tup (ea_cons (ev_lcount (ns := tws v) (by walk_at "ev") ev_int) (ea_cons (ev_lcount (ns := tws v) (by walk_at "ev") ev_int) ea_nil)) (by simp)) hD
theorem ok_within (F : Df K mg "within" s_within ["walk"]) (hb : Blt mg) (c1 : Cd P w K mg base 5 "asked_loop" (spD K RLoopA)) (c2 : Cd P w K mg base 4 "squares_of" (spL K RSquares)) : Cd P w K mg base 6 "within" (spL K RWithin) := by
  refine cdL F sc_within (fun ds r ⟨_, _, e, _⟩ => by rw [e]; rfl) fun f cdv A outer s H E hr nd ds r D ⟨v, hv, e1, e2⟩ hD => ?_
  subst e1 e2
  have h1 := hv.ln
  have hkeys := sqF_keys hv.cl
  have hnd := sqF_nd hv.cl
  have hlen := sqF_len v hv.ln
  unfold inner at hD
  refine run_env (e' := [some (.d (W v)), none, none, none, none, none, none, none]) rfl ?_
  refine run_expr (d := .none) (ev_call c1 hr (by decide) rfl (ea_cons (by walk_at "ev") ea_nil) ⟨v, hv, rfl, rfl⟩) ?_
  refine rs_M rfl nd (by walk_at "loc") ?_
  have hits : ∀ {X : Cx} {H0 : Hp} {env : En} {tg e : Expr}, EvL X env e ((sqF v).map sqD) → ItS X H0 env tg e (sqF v).length (fun m => .tuple [ptD ((sqF v).getD m e0).1, .int ((sqF v).getD m e0).2]) := fun h => its_sqs h
  have hcall : ∀ {X : Cx} {env : En} {e : Expr} {args r : List PyData}, True := fun {_ _ _ _ _} => trivial
  have hSq : RSquares [W v] ((sqF v).map sqD) := ⟨v, hv.ln, hv.cl, rfl, rfl⟩
  generalize sqF v = S at *
  have hft := dfold_nd _ S rfl hnd
  refine rs_for2 (n := S.length) (u := fun m => ptD (S.getD m e0).1) (v := fun m => .int (S.getD m e0).2) (fun i => [some (.d (W v)), some (.m (encD (dfold (S.take i)))), none, none, none, none, none, none]) rfl rfl nd (by walk_at "loc") (by walk_at "loc") PassesOwn.never (hits (evl_call c2 hr (by decide) rfl (ea_cons (by walk_at "ev") ea_nil) hSq)) (by walk_at "le") (fun m _ => ⟨rfl, rfl⟩) (fun i Hl D' hi hs hn hrt => ?_) ?_
  · have e1 := dfold_take S i hi
    have hl := dfold_len (S.take i)
    rw [List.length_take] at hl
    refine run_mput (k := K2 (S.getD i e0).1) (d := .int (S.getD i e0).2) hr rfl (by walk_at "vis") rfl (by walk_at "evg") (by walk_at "ev") rfl (by rw [encD_len]; omega) (run_turn hn ?_)
    rw [mput_enc, e1]
    walk_at "le"
  rw [List.take_length, hft]
  refine rs_L (ds := []) rfl nd (by walk_at "loc") (evl_lst ea_nil) rfl ?_
  have hkl : (encD S).length = S.length := encD_len S
  have hk : ∀ m, m < (encD S).length → kD ((encD S).getD m ([], .none)).1 = .tuple [.int (S.getD m e0).1.1, .int (S.getD m e0).1.2] ∧ fz (.int (S.getD m e0).1.1) = true ∧ fz (.int (S.getD m e0).1.2) = true := fun m hm => by
    rw [hkl] at hm
    refine ⟨?_, rfl, rfl⟩
    unfold encD
    rw [List.getD_eq_getElem?_getD, List.getElem?_map, List.getD_eq_getElem?_getD, List.getElem?_eq_getElem hm]
    rfl
  refine run_forKT (kvs := encD S) (u := fun m => .int (S.getD m e0).1.1) (v := fun m => .int (S.getD m e0).1.2) (fun l m => [some (.d (W v)), some (.k l (encD S)), none, none, some (.l ((((S.take m).map (·.1)).filter (four v)).map ptD)), none, none, none]) rfl (by walk_at "vis") rfl rfl rfl nd (by walk_at "loc") (by walk_at "loc") PassesOwn.never (fun l m => rfl) hk (fun l => by walk_at "le") (fun l m Hl D' hm hn => ?_) (fun l => rfl) (fun l => ?_)
  · rw [hkl] at hm
    have hst : ((S.take (m + 1)).map (·.1)).filter (four v) = ((S.take m).map (·.1)).filter (four v) ++ (if four v (S.getD m e0).1 = true then [(S.getD m e0).1] else []) := by
      rw [take_getD S e0 m hm, List.map_append, List.filter_append]
      congr 1
      show ([(S.getD m e0).1] : List Pt).filter (four v) = _
      rw [List.filter_cons]
      split <;> rfl
    have hfl : (((S.take m).map (·.1)).filter (four v)).length ≤ 700 * 1400 := by
      have := List.length_filter_le (four v) ((S.take m).map (·.1))
      rw [List.length_map, List.length_take] at this
      omega
    generalize (S.getD m e0).1 = q at *
    have hin : ∀ q : Pt, (mval (encD S) (K2 q)).isSome = decide (isIn v q) := fun q => by
      rw [mval_seen]
      exact decide_eq_decide.mpr (hkeys q)
    refine run_if (z := four v q) (et_val (Ev.is (ev_callB (call_allB (bs := (List.range 3).map fun i => decide (isIn v ([(q.1 - 1, q.2), (q.1, q.2 - 1), (q.1 - 1, q.2 - 1)].getD i (0, 0)))) rfl) rfl hb.all b_all (ea_cons (Ev.is (EvL.d (el_comp sc_within (n := 3) (item := fun i => [ptD (q.1 - 1, q.2), ptD (q.1, q.2 - 1), ptD (q.1 - 1, q.2 - 1)].getD i .none) (fun i => .bool (decide (isIn v ([(q.1 - 1, q.2), (q.1, q.2 - 1), (q.1 - 1, q.2 - 1)].getD i (0, 0))))) rfl nd (by decide +kernel) (ite_list (ds := [ptD (q.1 - 1, q.2), ptD (q.1, q.2 - 1), ptD (q.1 - 1, q.2 - 1)]) (EvL.d (EvL.is (evl_lst (ea_cons (by walk_at "ev") (ea_cons (by walk_at "ev") (ea_cons (by walk_at "ev") ea_nil))) (by simp)) rfl))) (fun _ _ _ _ _ => ⟨.inl rfl, .inr rfl⟩) (fun i _ => rfl) (by decide) fun s' H' C cl fp i hi => ?_)) ?_) ea_nil)) ?_)) (fun z => ?_) (fun z => run_nx (run_turn hn ?_))
    · have hc : ∃ p : Pt, [ptD (q.1 - 1, q.2), ptD (q.1, q.2 - 1), ptD (q.1 - 1, q.2 - 1)].getD i .none = ptD p ∧ [(q.1 - 1, q.2), (q.1, q.2 - 1), (q.1 - 1, q.2 - 1)].getD i (0, 0) = p := by
        have : i = 0 ∨ i = 1 ∨ i = 2 := by omega
        rcases this with rfl | rfl | rfl <;> exact ⟨_, rfl, rfl⟩
      obtain ⟨p, hp1, hp2⟩ := hc
      rw [hp1, hp2, ← hin p]
      exact ev_kin (l := l) (ky := K2 p) hr rfl (by walk_at "vis") rfl (by walk_at "evg")
    · rw [List.map_map]
      rfl
    · unfold four
      simp [List.range_succ]
    · rw [z] at hst
      refine rs_app rfl (by walk_at "vis") rfl (d := ptD q) (by walk_at "evg") rfl (by rw [List.length_map]; omega) (run_nx (run_turn hn ?_))
      rw [hst, if_pos rfl, List.map_append]
      walk_at "le"
    · rw [hst, z, if_neg (by decide), List.append_nil]
      walk_at "le"
  · rw [hkl, List.take_length]
    have hfl : ((S.map (·.1)).filter (four v)).length ≤ 700 * 1400 := by
      have := List.length_filter_le (four v) (S.map (·.1))
      rw [List.length_map] at this
      omega
    refine run_retL (EvL.is (evl_callB (call_sortedL hr (noDs_map fun p => rfl) (alike_pts ((S.map (·.1)).filter (four v))) (sortable_pts _) (by rw [List.length_map]; omega) (fun d hd => ?_)) rfl hb.sorted b_sorted (ea_cons (by walk_at "ev") ea_nil)) (show srt (((S.map (·.1)).filter (four v)).map ptD) = (srtP ((S.map (·.1)).filter (four v))).map ptD from srt_by ptD _)) hD
    obtain ⟨e, _, rfl⟩ := List.mem_map.mp hd
    simp [ptD, PyData.depth, PyData.depthAll]
end
end Sw

namespace Sw
open PySem PySem.Spec PyProof.Rows L2
local macro_rules | `(tactic| walk_at "vis") => `(tactic| first | exact .inl rfl | exact .inr (.inl rfl) | exact .inr (.inr rfl))
local macro_rules | `(tactic| walk_at "loc") => `(tactic| first | exact .inl rfl | exact .inr rfl)
local macro_rules | `(tactic| walk_at "str") => `(tactic| first | with_reducible exact s_ | with_reducible exact s_n | with_reducible exact s_w | with_reducible exact s_s | with_reducible exact s_e | with_reducible exact s_ns | with_reducible exact s_nwse | with_reducible exact s_nesw)
local macro_rules | `(tactic| walk_at "len") => `(tactic| first | omega | (simp; done) | (simp; omega))
local macro_rules | `(tactic| walk_at "bin") => `(tactic| first | with_reducible exact bin_addI | with_reducible exact bin_subI | with_reducible exact bin_modI (by omega) | with_reducible exact bin_addW (by walk_at "len"))
local macro_rules | `(tactic| walk_at "cmp") => `(tactic| first | with_reducible exact cmp_eqI | with_reducible exact cmp_neI | with_reducible exact cmp_eqW | with_reducible exact cmp_neW | with_reducible exact cmp_eqLn | with_reducible exact cmp_eqLw | with_reducible exact cmp_eqLs | with_reducible exact cmp_eqLe | with_reducible exact cmp_neLn | with_reducible exact cmp_neLw | with_reducible exact cmp_neLs | with_reducible exact cmp_neLe | with_reducible exact cmp_eqW0 | with_reducible exact cmp_neW0 | with_reducible exact cmp_eqL | with_reducible exact cmp_neL | with_reducible exact cmp_eqS | with_reducible exact cmp_neS | with_reducible exact cmp_ltI | with_reducible exact cmp_leI | with_reducible exact cmp_gtI | with_reducible exact cmp_geI | with_reducible exact cmp_inL | with_reducible exact cmp_inS)
local macro_rules | `(tactic| walk_at "mark") => `(tactic| first | exact nomark _ | rfl)
local macro_rules | `(tactic| walk_at "ea") => `(tactic| first | with_reducible exact ea_nil | (refine' ea_cons ?e ?r; (case e => walk_at "ev"); (case r => walk_at "ea")))
local macro_rules | `(tactic| walk_at "el") => `(tactic| first
  | (refine' evl_call (by assumption) (by assumption) (by decide) rfl ?a ?r; (case a => walk_at "ea"); (case r => walk_at "rel"))
  | (refine' evl_lst ?a ?l; (case a => walk_at "ea"); (case l => simp)))
local macro_rules | `(tactic| walk_at "ev") => `(tactic| first
  | with_reducible exact ev_int
  | (refine' ev_nm rfl ?v rfl rfl; (case v => walk_at "vis"))
  | (refine' ev_strS ?h; (case h => walk_at "str"))
  | (refine' ev_tup ?a ?l; (case a => walk_at "ea"); (case l => simp))
  | (refine' ev_bin ?a ?b ?r; (case a => walk_at "ev"); (case b => walk_at "ev"); (case r => walk_at "bin"))
  | (refine' ev_un ?a ?r; (case a => walk_at "ev"); (case r => exact un_negI))
  | (refine' ev_call (by assumption) (by assumption) (by decide) rfl ?a ?r; (case a => walk_at "ea"); (case r => walk_at "rel"))
  | (refine' ev_callB ?c rfl ?m ?b ?a; (case b => walk_at "boot"); (case a => walk_at "ea"); (case m => walk_at "blt"); (case c => walk_at "call"))
  | (refine' ev_isi ?e rfl ?m rfl ?n ?b ?t ?k ?d; (case b => walk_at "boot"); (case e => walk_at "ev"); (case m => walk_at "blt"); (case n => walk_at "blt"); (case t => walk_at "ty"); (case k => walk_at "kit"); (case d => decide))
  | (refine' ev_m1 PySem.F.slot_str_count PySem.F.type_str_count ?m ?t ?o ?e; (case o => walk_at "ev"); (case t => walk_at "ty"); (case e => walk_at "ev"); (case m => first | with_reducible exact mt_countWn | with_reducible exact mt_countWw | with_reducible exact mt_countWs | with_reducible exact mt_countWe))
  | (refine' ev_m1 PySem.F.slot_str_index PySem.F.type_str_index ?m ?t ?o ?e; (case o => walk_at "ev"); (case t => walk_at "ty"); (case e => walk_at "ev"); (case m => exact mt_indexW))
  | (refine' ev_m1 PySem.F.slot_str_strip PySem.F.type_str_strip ?m ?t ?o ?e; (case o => walk_at "ev"); (case t => walk_at "ty"); (case e => walk_at "ev"); (case m => exact mt_stripW (by walk_at "len")))
  | (refine' ev_ix ?a ?b ?r; (case a => walk_at "ev"); (case b => walk_at "ev"); (case r => walk_at "ix"))
  | (refine' EvL.d ?a; (case a => walk_at "el"))
  | exact ev_globS rfl (by assumption)
  | with_reducible exact ev_bl | with_reducible exact ev_non)
local macro_rules | `(tactic| walk_at "blt") => `(tactic| first
  | exact Blt.isinstance (by assumption) | exact Blt.int (by assumption) | exact Blt.bool (by assumption) | exact Blt.str (by assumption) | exact Blt.list (by assumption) | exact Blt.tuple (by assumption) | exact Blt.range (by assumption) | exact Blt.len (by assumption) | exact Blt.sum (by assumption) | exact Blt.abs (by assumption) | exact Blt.min (by assumption) | exact Blt.all (by assumption) | exact Blt.any (by assumption) | exact Blt.sorted (by assumption) | exact Blt.set (by assumption) | exact Blt.enumerate (by assumption) | exact Blt.zip (by assumption) | exact Blt.reversed (by assumption))
local macro_rules | `(tactic| walk_at "call") => `(tactic| first | exact ev_lenW (by walk_at "len") | exact call_lenL | exact call_lenT | exact call_absI | exact call_minI rfl | exact call_sumI rfl)
local macro_rules | `(tactic| walk_at "et") => `(tactic| (refine' EvT.is ?a ?b; (case a => walk_at "et0"); (case b => rfl)))
local macro_rules | `(tactic| walk_at "evg") => `(tactic| (refine' Ev.is ?a ?b; (case a => walk_at "ev"); (case b => rfl)))
local macro_rules | `(tactic| walk_at "et0") => `(tactic| first
  | (refine' et_not ?a; (case a => walk_at "et0"))
  | (refine' et_cmp ?a ?b ?r ?m; (case a => walk_at "ev"); (case b => walk_at "ev"); (case r => walk_at "cmp"); (case m => walk_at "mark"))
  | (refine' et_val ?a ?h; (case a => walk_at "ev"); (case h => (intro _; rfl))))
local macro_rules | `(tactic| walk_at "boot") => `(tactic| first | with_reducible exact b_int | with_reducible exact b_bool | with_reducible exact b_str | with_reducible exact b_list | with_reducible exact b_tuple | with_reducible exact b_range | with_reducible exact b_set | with_reducible exact b_enumerate | with_reducible exact b_zip | with_reducible exact b_reversed | with_reducible exact b_isinstance | with_reducible exact b_len | with_reducible exact b_sum | with_reducible exact b_abs | with_reducible exact b_min | with_reducible exact b_all | with_reducible exact b_any | with_reducible exact b_sorted)
local macro_rules | `(tactic| walk_at "ix") => `(tactic| first | exact ix_lett)
local macro_rules | `(tactic| walk_at "kit") => `(tactic| first | with_reducible exact k_int_int | with_reducible exact k_int_bool | with_reducible exact k_int_str | with_reducible exact k_int_list | with_reducible exact k_int_tuple | with_reducible exact k_bool_int | with_reducible exact k_bool_bool | with_reducible exact k_bool_str | with_reducible exact k_bool_list | with_reducible exact k_bool_tuple | with_reducible exact k_str_int | with_reducible exact k_str_bool | with_reducible exact k_str_str | with_reducible exact k_str_list | with_reducible exact k_str_tuple | with_reducible exact k_list_int | with_reducible exact k_list_bool | with_reducible exact k_list_str | with_reducible exact k_list_list | with_reducible exact k_list_tuple | with_reducible exact k_tuple_int | with_reducible exact k_tuple_bool | with_reducible exact k_tuple_str | with_reducible exact k_tuple_list | with_reducible exact k_tuple_tuple | with_reducible exact k_NoneType_int | with_reducible exact k_NoneType_bool | with_reducible exact k_NoneType_str | with_reducible exact k_NoneType_list | with_reducible exact k_NoneType_tuple)
local macro_rules | `(tactic| walk_at "ty") => `(tactic| first | with_reducible exact ty_int | with_reducible exact ty_W | with_reducible exact ty_ptD | with_reducible exact ty_bool | with_reducible exact ty_str | with_reducible exact ty_list | with_reducible exact ty_tuple | with_reducible exact ty_none)
local macro_rules | `(tactic| walk_at "rel") => `(tactic| first | exact ⟨_, by walk_at "len", rfl, rfl⟩ | exact ⟨_, _, by walk_at "len", rfl, rfl⟩ | exact ⟨_, rfl, rfl⟩ | exact ⟨_, _, rfl, rfl⟩)
local macro_rules | `(tactic| walk_at "ix") => `(tactic| first | exact ix_lett | exact ix_nesw)
local macro_rules | `(tactic| walk_at "le") => `(tactic| repeat first | exact .nil | refine .keep rfl ?_ | refine .skip ?_)
/-! ### what turning, mirroring, going back and beginning elsewhere do to winding numbers, places and turns -/
theorem wn_nil (p : Pt) (c y : Int) : wn p [] c y = 0 := rfl
theorem rowS_cons (p : Pt) (d : Dr) (w : Wk) (y : Int) : rowS p (d :: w) y = (match ckey p d with | some (k, v) => v * (if k.1 = y then (1 : Int) else 0) | none => 0) + rowS (go p d) w y := rfl
theorem wn_app (c y : Int) : ∀ (a b : Wk) (p : Pt), wn p (a ++ b) c y = wn p a c y + wn (goAll p a) b c y
  | [], b, p => by
    rw [wn_nil, Int.zero_add]
    rfl
  | d :: a, b, p => by
    rw [List.cons_append, wn_cons, wn_cons, wn_app c y a b (go p d), Int.add_assoc]
    rfl
theorem wn_mir (c y : Int) : ∀ (v : Wk) (p : Pt), wn (mirP p) (v.map mir) (-c - 1) y = rowS p v y - wn p v c y
  | [], p => rfl
  | d :: v, p => by
    rw [List.map_cons, wn_cons, wn_cons, rowS_cons, go_mir, wn_mir c y v (go p d)]
    have : wnS (mirP p) (mir d) (-c - 1) y = (match ckey p d with | some (k, v) => v * (if k.1 = y then (1 : Int) else 0) | none => 0) - wnS p d c y := by
      unfold wnS
      cases d <;> simp only [mir, ckey, mirP, Int.one_mul, Int.neg_mul] <;> (repeat' split) <;> (try simp only [Int.neg_zero, Int.neg_neg]) <;> omega
    omega
theorem wn_back (c y : Int) : ∀ (v : Wk) (p : Pt), wn (goAll p v) (backW v) c y = - wn p v c y
  | [], p => rfl
  | d :: v, p => by
    have e : goAll p (d :: v) = goAll (go p d) v := rfl
    have hb : goAll (goAll (go p d) v) (backW v) = go p d := by rw [← goAll_app]; exact goAll_back v _
    rw [e, backW_cons, wn_app, wn_back c y v (go p d), hb, wn_cons, wn_cons, wn_nil]
    have : wnS (go p d) (turnD 2 d) c y = - wnS p d c y := by
      unfold wnS
      cases d <;> simp only [show turnD 2 Dr.n = .s from rfl, show turnD 2 Dr.s = .n from rfl, show turnD 2 Dr.e = .w from rfl, show turnD 2 Dr.w = .e from rfl, ckey, go, Dr.dx, Dr.dy, Int.one_mul, Int.neg_mul] <;> (repeat' split) <;> (try simp only [Int.neg_zero, Int.neg_neg]) <;> omega
    omega
def shP (t p : Pt) : Pt := (p.1 + t.1, p.2 + t.2)
theorem go_sh (t p : Pt) (d : Dr) : go (shP t p) d = shP t (go p d) := by
  refine Prod.ext ?_ ?_ <;> simp only [go, shP] <;> omega
theorem wn_sh (t : Pt) (c y : Int) : ∀ (v : Wk) (p : Pt), wn (shP t p) v (c + t.1) (y + t.2) = wn p v c y
  | [], p => rfl
  | d :: v, p => by
    rw [wn_cons, wn_cons, go_sh, wn_sh t c y v (go p d)]
    have : wnS (shP t p) d (c + t.1) (y + t.2) = wnS p d c y := by
      unfold wnS
      cases d <;> simp only [ckey, shP, Int.one_mul, Int.neg_mul] <;> (repeat' split) <;> (try simp only [Int.neg_zero, Int.neg_neg]) <;> omega
    omega
/-- what a column's steps sum to -/
def colT (p : Pt) (d : Dr) (c : Int) : Int := match d with
  | .e => if p.1 = c then 1 else 0
  | .w => if p.1 - 1 = c then -1 else 0
  | _ => 0
def colS (p : Pt) (w : Wk) (c : Int) : Int := match w with
  | [] => 0
  | d :: w => colT p d c + colS (go p d) w c
theorem colS_eq (c : Int) : ∀ (w : Wk) (p : Pt), colS p w c = (if c < (goAll p w).1 then 1 else 0) - (if c < p.1 then 1 else 0)
  | [], p => by
    show (0 : Int) = (if c < p.1 then 1 else 0) - (if c < p.1 then 1 else 0)
    omega
  | d :: w, p => by
    show _ + colS (go p d) w c = (if c < (goAll (go p d) w).1 then 1 else 0) - _
    rw [colS_eq c w]
    have : colT p d c = (if c < (go p d).1 then 1 else 0) - (if c < p.1 then 1 else 0) := by
      cases d <;> simp only [colT, go, Dr.dx] <;> (repeat' split) <;> (try simp only [Int.neg_zero, Int.neg_neg]) <;> omega
    omega
theorem wn_rot1 (c y : Int) : ∀ (v : Wk) (p : Pt), wn (rotP 1 p) (v.map (turnD 1)) (-y - 1) c = wv p v c y + colS p v c
  | [], p => rfl
  | d :: v, p => by
    have e : colS p (d :: v) c = colT p d c + colS (go p d) v c := rfl
    rw [List.map_cons, wn_cons, wv_cons, e, go_rot, wn_rot1 c y v (go p d)]
    have : wnS (rotP 1 p) (turnD 1 d) (-y - 1) c = wvS p d c y + colT p d c := by
      unfold wnS wvS
      rw [show rotP 1 p = (-p.2, p.1) from rfl]
      cases d <;> simp only [show turnD 1 Dr.n = .w from rfl, show turnD 1 Dr.w = .s from rfl, show turnD 1 Dr.s = .e from rfl, show turnD 1 Dr.e = .n from rfl, ckey, colT, Int.one_mul, Int.neg_mul] <;> (repeat' split) <;> (try simp only [Int.neg_zero, Int.neg_neg]) <;> omega
    omega
/-- the places before each step -/
def ini (p : Pt) : Wk → List Pt
  | [] => []
  | d :: w => p :: ini (go p d) w
/-- the places after each step -/
def fin (p : Pt) : Wk → List Pt
  | [] => []
  | d :: w => go p d :: fin (go p d) w
theorem walk_ini : ∀ (v : Wk) (p : Pt), walkFrom p v = ini p v ++ [goAll p v]
  | [], p => rfl
  | d :: v, p => by
    show p :: walkFrom (go p d) v = p :: (ini (go p d) v ++ [goAll (go p d) v])
    rw [walk_ini v]
theorem walk_fin : ∀ (v : Wk) (p : Pt), walkFrom p v = p :: fin p v
  | [], p => rfl
  | d :: v, p => by
    show p :: walkFrom (go p d) v = p :: (go p d :: fin (go p d) v)
    rw [walk_fin v]
theorem ini_app : ∀ (a b : Wk) (p : Pt), ini p (a ++ b) = ini p a ++ ini (goAll p a) b
  | [], b, p => rfl
  | d :: a, b, p => congrArg (p :: ·) (ini_app a b (go p d))
theorem ini_len : ∀ (a : Wk) (p : Pt), (ini p a).length = a.length
  | [], p => rfl
  | d :: a, p => congrArg (· + 1) (ini_len a (go p d))
theorem ini_mir : ∀ (v : Wk) (p : Pt), ini (mirP p) (v.map mir) = (ini p v).map mirP
  | [], p => rfl
  | d :: v, p => by
    show mirP p :: ini (go (mirP p) (mir d)) (v.map mir) = mirP p :: (ini (go p d) v).map mirP
    rw [go_mir, ini_mir v]
theorem ini_rot (k : Int) : ∀ (v : Wk) (p : Pt), ini (rotP k p) (v.map (turnD k)) = (ini p v).map (rotP k)
  | [], p => rfl
  | d :: v, p => by
    show rotP k p :: ini (go (rotP k p) (turnD k d)) (v.map (turnD k)) = rotP k p :: (ini (go p d) v).map (rotP k)
    rw [go_rot, ini_rot k v]
theorem ini_sh (t : Pt) : ∀ (v : Wk) (p : Pt), ini (shP t p) v = (ini p v).map (shP t)
  | [], p => rfl
  | d :: v, p => by
    show shP t p :: ini (go (shP t p) d) v = shP t p :: (ini (go p d) v).map (shP t)
    rw [go_sh, ini_sh t v]
theorem goAll_sh (t : Pt) : ∀ (v : Wk) (p : Pt), goAll (shP t p) v = shP t (goAll p v)
  | [], p => rfl
  | d :: v, p => by
    show goAll (go (shP t p) d) v = shP t (goAll (go p d) v)
    rw [go_sh, goAll_sh t v]
theorem ini_back : ∀ (v : Wk) (p : Pt), ini (goAll p v) (backW v) = (fin p v).reverse
  | [], p => rfl
  | d :: v, p => by
    have e : goAll p (d :: v) = goAll (go p d) v := rfl
    have hb : goAll (goAll (go p d) v) (backW v) = go p d := by rw [← goAll_app]; exact goAll_back v _
    rw [e, backW_cons, ini_app, ini_back v (go p d), hb]
    show _ = (go p d :: fin (go p d) v).reverse
    rw [List.reverse_cons]
    rfl
theorem fin_ini {v : Wk} {p : Pt} (h : goAll p v = p) : (fin p v).Perm (ini p v) := by
  have h1 : p :: fin p v = ini p v ++ [p] := by rw [← walk_fin, walk_ini, h]
  have h2 : (p :: fin p v).Perm (p :: ini p v) := by
    rw [h1]
    exact List.perm_append_comm
  exact h2.cons_inv
theorem ownP_ini {v : Wk} (h : goAll (0, 0) v = (0, 0)) (h0 : v ≠ []) : ownP v = ini (0, 0) v := by
  unfold ownP
  rw [if_pos ⟨h0, h⟩, show pls0 v = walkFrom (0, 0) v from rfl, walk_ini, List.dropLast_concat]
theorem nodup_map {f : Pt → Pt} (hf : ∀ a b, f a = f b → a = b) {l : List Pt} (h : l.Nodup) : (l.map f).Nodup := by
  unfold List.Nodup at *
  rw [List.pairwise_map]
  exact h.imp fun hab z => hab (hf _ _ z)
theorem loop_mk {v : Wk} (h1 : v.length ≤ 700) (h4 : 4 ≤ v.length) (hc : goAll (0, 0) v = (0, 0)) (hn : (ini (0, 0) v).Nodup) : Loop v :=
  ⟨h1, h4, hc, by rw [ownP_ini hc (by intro z; rw [z] at h4; exact absurd h4 (by decide))]; exact hn⟩
theorem Loop.ne {v : Wk} (L : Loop v) : v ≠ [] := by
  intro z
  have := L.l4
  rw [z] at this
  exact absurd this (by decide)
theorem Loop.ini {v : Wk} (L : Loop v) : (ini (0, 0) v).Nodup := ownP_ini L.cl L.ne ▸ L.nd
theorem loop_mir {v : Wk} (L : Loop v) : Loop (v.map mir) := by
  refine loop_mk (by rw [List.length_map]; exact L.ln) (by rw [List.length_map]; exact L.l4) ?_ ?_
  · have := goAll_mir v (0, 0)
    rw [L.cl] at this
    exact this
  · rw [show ((0, 0) : Pt) = mirP (0, 0) from rfl, ini_mir]
    refine nodup_map (fun a b h => ?_) L.ini
    unfold mirP at h
    injection h with h1 h2
    exact Prod.ext (by omega) h2
theorem loop_rot {v : Wk} (L : Loop v) (k : Int) : Loop (v.map (turnD k)) := by
  refine loop_mk (by rw [List.length_map]; exact L.ln) (by rw [List.length_map]; exact L.l4) ?_ ?_
  · rw [goAll_rot0, L.cl, rotP_zero]
  · rw [← rotP_zero k, ini_rot]
    refine nodup_map (fun a b h => ?_) L.ini
    unfold rotP at h
    rcases mod4 k with z | z | z | z <;> rw [z] at h
    · exact h
    · have h : ((-a.2, a.1) : Pt) = (-b.2, b.1) := h
      injection h with h1 h2
      exact Prod.ext h2 (by omega)
    · have h : ((-a.1, -a.2) : Pt) = (-b.1, -b.2) := h
      injection h with h1 h2
      exact Prod.ext (by omega) (by omega)
    · have h : ((a.2, -a.1) : Pt) = (b.2, -b.1) := h
      injection h with h1 h2
      exact Prod.ext (by omega) h1
theorem loop_back {v : Wk} (L : Loop v) : Loop (backW v) := by
  have be : goAll (0, 0) (backW v) = (0, 0) := by
    have := goAll_back v (0, 0)
    rwa [goAll_app, L.cl] at this
  refine loop_mk (by rw [backW_len]; exact L.ln) (by rw [backW_len]; exact L.l4) be ?_
  have h1 := ini_back v (0, 0)
  rw [L.cl] at h1
  rw [h1]
  exact (List.reverse_perm _).nodup_iff.mpr ((fin_ini L.cl).nodup_iff.mpr L.ini)
theorem loop_app {a b : Wk} (L : Loop (a ++ b)) : Loop (b ++ a) := by
  have hc : goAll (goAll (0, 0) a) b = (0, 0) := by rw [← goAll_app]; exact L.cl
  have hs : shP (goAll (0, 0) a) (0, 0) = goAll (0, 0) a := Prod.ext (Int.zero_add _) (Int.zero_add _)
  have si : ∀ {p q t : Pt}, shP t p = shP t q → p = q := fun {p q t} h => by
    unfold shP at h
    injection h with h1 h2
    exact Prod.ext (by omega) (by omega)
  refine loop_mk (by have := L.ln; rw [List.length_append] at *; omega) (by have := L.l4; rw [List.length_append] at *; omega) ?_ ?_
  · have h1 := goAll_sh (goAll (0, 0) a) (b ++ a) (0, 0)
    rw [hs, goAll_app, hc] at h1
    exact (si (hs.trans h1)).symm
  · have h1 := ini_sh (goAll (0, 0) a) (b ++ a) (0, 0)
    rw [hs, ini_app, hc] at h1
    have h2 : (ini (goAll (0, 0) a) b ++ ini (0, 0) a).Nodup := by
      have := L.ini
      rw [ini_app] at this
      exact (List.perm_append_comm.nodup_iff).mp this
    rw [h1] at h2
    unfold List.Nodup at h2
    rw [List.pairwise_map] at h2
    exact h2.imp fun hab z => hab (by rw [z])
theorem wn_app_rot {a b : Wk} (hc : goAll (0, 0) (a ++ b) = (0, 0)) (c y : Int) : wn (0, 0) (b ++ a) c y = wn (0, 0) (a ++ b) (c + (goAll (0, 0) a).1) (y + (goAll (0, 0) a).2) := by
  have hs : shP (goAll (0, 0) a) (0, 0) = goAll (0, 0) a := Prod.ext (Int.zero_add _) (Int.zero_add _)
  rw [← wn_sh (goAll (0, 0) a) c y (b ++ a) (0, 0), hs, wn_app, wn_app]
  rw [goAll_app] at hc
  rw [hc]
  omega
/-! ### turns -/
def tw (a b : Dr) : Int := ((b.ix : Int) - (a.ix : Int)) % 4
def la (a : Dr) (v : Wk) : Dr := v.foldl (fun _ d => d) a
theorem la_app (a : Dr) (u v : Wk) : la a (u ++ v) = la (la a u) v := List.foldl_append ..
theorem la_ne (a b : Dr) : ∀ {v : Wk}, v ≠ [] → la a v = la b v
  | [], h => absurd rfl h
  | _ :: _, _ => rfl
theorem la_map (f : Dr → Dr) : ∀ (v : Wk) (a : Dr), la (f a) (v.map f) = f (la a v)
  | [], _ => rfl
  | d :: v, _ => la_map f v d
theorem la_getD : ∀ (v : Wk) (a : Dr), la a v = (a :: v).getD v.length .n
  | [], _ => rfl
  | d :: v, a => by
    show la d v = _
    rw [la_getD v d]
    rfl
def twL (a : Dr) : Wk → List Int
  | [] => []
  | d :: v => tw a d :: twL d v
theorem twL_len : ∀ (v : Wk) (a : Dr), (twL a v).length = v.length
  | [], _ => rfl
  | d :: v, _ => congrArg (· + 1) (twL_len v d)
theorem twL_app : ∀ (u v : Wk) (a : Dr), twL a (u ++ v) = twL a u ++ twL (la a u) v
  | [], _, _ => rfl
  | d :: u, v, a => congrArg (tw a d :: ·) (twL_app u v d)
theorem twL_at : ∀ (v : Wk) (a : Dr) (i : Nat), i < v.length → (twL a v)[i]? = some (tw ((a :: v).getD i .n) (v.getD i .n))
  | d :: v, a, 0, _ => rfl
  | d :: v, a, i + 1, h => by
    show (twL d v)[i]? = _
    rw [twL_at v d i (Nat.lt_of_succ_lt_succ h)]
    rfl
theorem tws_eq {v : Wk} (h : v ≠ []) : tws v = twL (la .n v) v := by
  have hl : 0 < v.length := List.length_pos_iff.mpr h
  apply List.ext_getElem?
  intro i
  by_cases hi : i < v.length
  · rw [twL_at v _ i hi]
    unfold tws
    rw [List.getElem?_map, List.getElem?_range hi]
    show some (tw1 v i) = _
    unfold tw1 prv
    congr 2
    show _ = (((v.getD i .n).ix : Int) - _)
    congr 2
    cases i with
    | zero =>
      have e : (0 + v.length - 1) % v.length = v.length - 1 := by
        rw [Nat.zero_add]
        exact Nat.mod_eq_of_lt (by omega)
      rw [e, la_getD]
      cases v with
      | nil => exact absurd rfl h
      | cons d v => rfl
    | succ i =>
      rw [show i + 1 + v.length - 1 = i + v.length by omega, Nat.add_mod_right, Nat.mod_eq_of_lt (by omega)]
      rfl
  · rw [List.getElem?_eq_none (by unfold tws; rw [List.length_map, List.length_range]; omega), List.getElem?_eq_none (by rw [twL_len]; omega)]
def ng (t : Int) : Int := (-t) % 4
theorem tw_mir (a b : Dr) : tw (mir a) (mir b) = ng (tw a b) := by cases a <;> cases b <;> rfl
theorem tw_opp (a b : Dr) : tw (turnD 2 b) (turnD 2 a) = ng (tw a b) := by cases a <;> cases b <;> rfl
theorem tw_rot (k : Int) (a b : Dr) : tw (turnD k a) (turnD k b) = tw a b := by
  rw [← turnD_mod k]
  rcases mod4 k with z | z | z | z <;> rw [z] <;> cases a <;> cases b <;> rfl
theorem twL_mir : ∀ (v : Wk) (a : Dr), twL (mir a) (v.map mir) = (twL a v).map ng
  | [], _ => rfl
  | d :: v, a => by
    show tw (mir a) (mir d) :: twL (mir d) (v.map mir) = ng (tw a d) :: (twL d v).map ng
    rw [tw_mir, twL_mir v]
theorem twL_rot (k : Int) : ∀ (v : Wk) (a : Dr), twL (turnD k a) (v.map (turnD k)) = twL a v
  | [], _ => rfl
  | d :: v, a => by
    show tw (turnD k a) (turnD k d) :: twL (turnD k d) (v.map (turnD k)) = tw a d :: twL d v
    rw [tw_rot, twL_rot k v]
theorem la_back : ∀ (v : Wk) (a z : Dr), la z (backW (a :: v)) = turnD 2 a := fun v a z => by
  rw [backW_cons, la_app]
  rfl
theorem twL_back : ∀ (v : Wk) (a z : Dr), twL z (backW (a :: v)) = tw z (turnD 2 (la a v)) :: ((twL a v).map ng).reverse
  | [], a, z => rfl
  | b :: v, a, z => by
    rw [backW_cons, twL_app, twL_back v b z, la_back]
    show tw z (turnD 2 (la b v)) :: (_ ++ [tw (turnD 2 b) (turnD 2 a)]) = tw z (turnD 2 (la b v)) :: (ng (tw a b) :: (twL b v).map ng).reverse
    rw [tw_opp, List.reverse_cons]
theorem tws_mir {v : Wk} (h : v ≠ []) : tws (v.map mir) = (tws v).map ng := by
  rw [tws_eq h, tws_eq (by intro z; exact h (List.map_eq_nil_iff.mp z)), ← twL_mir]
  congr 1
  exact la_map mir v .n
theorem tws_rot {v : Wk} (k : Int) (h : v ≠ []) : tws (v.map (turnD k)) = tws v := by
  rw [tws_eq h, tws_eq (by intro z; exact h (List.map_eq_nil_iff.mp z)), ← twL_rot k v (la .n v), ← la_map (turnD k) v .n, la_ne (turnD k .n) .n (by intro z; exact h (List.map_eq_nil_iff.mp z))]
theorem tws_back {v : Wk} (h : v ≠ []) : (tws (backW v)).Perm ((tws v).map ng) := by
  cases v with
  | nil => exact absurd rfl h
  | cons a v =>
    have h2 : backW (a :: v) ≠ [] := by
      intro z
      have := congrArg List.length z
      rw [backW_len] at this
      exact absurd this (by simp)
    rw [tws_eq h, tws_eq h2, la_back, twL_back]
    show List.Perm _ (ng (tw (la a v) a) :: (twL a v).map ng)
    rw [tw_opp]
    exact List.Perm.cons _ (List.reverse_perm _)
theorem tws_app {a b : Wk} : (tws (b ++ a)).Perm (tws (a ++ b)) := by
  by_cases ha : a = []
  · subst ha
    rw [List.append_nil, List.nil_append]
  by_cases hb : b = []
  · subst hb
    rw [List.append_nil, List.nil_append]
  rw [tws_eq (by intro z; exact ha (List.append_eq_nil_iff.mp z).2), tws_eq (by intro z; exact ha (List.append_eq_nil_iff.mp z).1), twL_app, twL_app]
  rw [show la .n (b ++ a) = la (la .n (a ++ b)) a by rw [la_app]; exact la_ne _ _ ha]
  rw [show la (la (la .n (a ++ b)) a) b = la .n (a ++ b) by rw [← la_app]; exact la_ne _ _ (by intro z; exact ha (List.append_eq_nil_iff.mp z).1)]
  exact List.perm_append_comm
theorem tw_rng (a b : Dr) : 0 ≤ tw a b ∧ tw a b ≤ 3 := by unfold tw; omega
theorem twL_rng : ∀ (v : Wk) (a : Dr) (t : Int), t ∈ twL a v → 0 ≤ t ∧ t ≤ 3
  | d :: v, a, t, h => by
    rcases List.mem_cons.mp h with h | h
    · rw [h]; exact tw_rng a d
    · exact twL_rng v d t h
theorem count_ng : ∀ (l : List Int), (∀ t ∈ l, 0 ≤ t ∧ t ≤ 3) → (l.map ng).count 1 = l.count 3 ∧ (l.map ng).count 3 = l.count 1
  | [], _ => ⟨rfl, rfl⟩
  | t :: l, h => by
    obtain ⟨h1, h2⟩ := count_ng l fun t ht => h t (List.mem_cons_of_mem _ ht)
    obtain ⟨g1, g2⟩ := h t (List.mem_cons_self ..)
    rw [List.map_cons, List.count_cons, List.count_cons, List.count_cons, List.count_cons, h1, h2]
    have : t = 0 ∨ t = 1 ∨ t = 2 ∨ t = 3 := by omega
    rcases this with rfl | rfl | rfl | rfl <;> exact ⟨rfl, rfl⟩
theorem tws_rng {v : Wk} (h : v ≠ []) : ∀ t ∈ tws v, 0 ≤ t ∧ t ≤ 3 := by
  rw [tws_eq h]
  exact twL_rng v _
/-- how a step counts, unwrapped -/
def un : Dr → Int
  | .e => -1
  | .n => 0
  | .w => 1
  | .s => 2
def good (a b : Dr) : Prop := un b - un a = 0 ∨ un b - un a = 1 ∨ un b - un a = -1
def goods (a : Dr) : Wk → Prop
  | [] => True
  | d :: v => good a d ∧ goods d v
theorem goods_app : ∀ (u v : Wk) (a : Dr), goods a u → goods (la a u) v → goods a (u ++ v)
  | [], _, _, _, h => h
  | d :: u, v, a, h, h2 => ⟨h.1, goods_app u v d h.2 h2⟩
theorem goods_rep (d : Dr) : ∀ n, goods d (List.replicate n d)
  | 0 => trivial
  | n + 1 => ⟨.inl (Int.sub_self _), goods_rep d n⟩
theorem la_rep (d : Dr) : ∀ n, la d (List.replicate n d) = d
  | 0 => rfl
  | n + 1 => la_rep d n
theorem good_tw {a b : Dr} (h : good a b) : (if tw a b = 1 then (1 : Int) else 0) - (if tw a b = 3 then 1 else 0) = un b - un a ∧ tw a b ≠ 2 := by
  unfold good at h
  cases a <;> cases b <;> first | exact ⟨rfl, by decide⟩ | exact absurd h (by decide)
/-- left turns less right turns, along a way without turning back -/
theorem goods_cnt : ∀ (v : Wk) (a : Dr), goods a v → ((twL a v).count 1 : Int) - ((twL a v).count 3 : Int) = un (la a v) - un a ∧ ∀ t ∈ twL a v, t ≠ 2
  | [], a, _ => ⟨by show (0 : Int) - 0 = un a - un a; omega, fun t h => by cases h⟩
  | d :: v, a, h => by
    obtain ⟨h1, h2⟩ := goods_cnt v d h.2
    obtain ⟨g1, g2⟩ := good_tw h.1
    refine ⟨?_, fun t ht => ?_⟩
    · show (((tw a d :: twL d v).count 1 : Nat) : Int) - ((tw a d :: twL d v).count 3 : Nat) = un (la d v) - un a
      rw [List.count_cons, List.count_cons]
      simp only [beq_iff_eq]
      split <;> split <;> rename_i z1 z2 <;> (try rw [if_pos z1] at g1) <;> (try rw [if_neg z1] at g1) <;> (try rw [if_pos z2] at g1) <;> (try rw [if_neg z2] at g1) <;> omega
    · rcases List.mem_cons.mp ht with z | z
      · rw [z]; exact g2
      · exact h2 t z
/-- .. and all bends -/
theorem cnt_bends : ∀ (l : List Int), (∀ t ∈ l, 0 ≤ t ∧ t ≤ 3) → (∀ t ∈ l, t ≠ 2) → l.count 1 + l.count 3 = (l.filter fun t => decide (t ≠ 0)).length
  | [], _, _ => rfl
  | t :: l, h, h2 => by
    have ih := cnt_bends l (fun t ht => h t (List.mem_cons_of_mem _ ht)) fun t ht => h2 t (List.mem_cons_of_mem _ ht)
    obtain ⟨g1, g2⟩ := h t (List.mem_cons_self ..)
    have g3 := h2 t (List.mem_cons_self ..)
    rw [List.count_cons, List.count_cons, List.filter_cons]
    have : t = 0 ∨ t = 1 ∨ t = 3 := by omega
    rcases this with rfl | rfl | rfl
    · simpa using ih
    · simp
      simp at ih
      omega
    · simp
      simp at ih
      omega
end Sw

namespace Sw
open PySem PySem.Spec PyProof.Rows L2
local macro_rules | `(tactic| walk_at "vis") => `(tactic| first | exact .inl rfl | exact .inr (.inl rfl) | exact .inr (.inr rfl))
local macro_rules | `(tactic| walk_at "loc") => `(tactic| first | exact .inl rfl | exact .inr rfl)
local macro_rules | `(tactic| walk_at "str") => `(tactic| first | with_reducible exact s_ | with_reducible exact s_n | with_reducible exact s_w | with_reducible exact s_s | with_reducible exact s_e | with_reducible exact s_ns | with_reducible exact s_nwse | with_reducible exact s_nesw)
local macro_rules | `(tactic| walk_at "len") => `(tactic| first | omega | (simp; done) | (simp; omega))
local macro_rules | `(tactic| walk_at "bin") => `(tactic| first | with_reducible exact bin_addI | with_reducible exact bin_subI | with_reducible exact bin_modI (by omega) | with_reducible exact bin_addW (by walk_at "len"))
local macro_rules | `(tactic| walk_at "cmp") => `(tactic| first | with_reducible exact cmp_eqI | with_reducible exact cmp_neI | with_reducible exact cmp_eqW | with_reducible exact cmp_neW | with_reducible exact cmp_eqLn | with_reducible exact cmp_eqLw | with_reducible exact cmp_eqLs | with_reducible exact cmp_eqLe | with_reducible exact cmp_neLn | with_reducible exact cmp_neLw | with_reducible exact cmp_neLs | with_reducible exact cmp_neLe | with_reducible exact cmp_eqW0 | with_reducible exact cmp_neW0 | with_reducible exact cmp_eqL | with_reducible exact cmp_neL | with_reducible exact cmp_eqS | with_reducible exact cmp_neS | with_reducible exact cmp_ltI | with_reducible exact cmp_leI | with_reducible exact cmp_gtI | with_reducible exact cmp_geI | with_reducible exact cmp_inL | with_reducible exact cmp_inS)
local macro_rules | `(tactic| walk_at "mark") => `(tactic| first | exact nomark _ | rfl)
local macro_rules | `(tactic| walk_at "ea") => `(tactic| first | with_reducible exact ea_nil | (refine' ea_cons ?e ?r; (case e => walk_at "ev"); (case r => walk_at "ea")))
local macro_rules | `(tactic| walk_at "el") => `(tactic| first
  | (refine' evl_call (by assumption) (by assumption) (by decide) rfl ?a ?r; (case a => walk_at "ea"); (case r => walk_at "rel"))
  | (refine' evl_lst ?a ?l; (case a => walk_at "ea"); (case l => simp)))
local macro_rules | `(tactic| walk_at "ev") => `(tactic| first
  | with_reducible exact ev_int
  | (refine' ev_nm rfl ?v rfl rfl; (case v => walk_at "vis"))
  | (refine' ev_strS ?h; (case h => walk_at "str"))
  | (refine' ev_tup ?a ?l; (case a => walk_at "ea"); (case l => simp))
  | (refine' ev_bin ?a ?b ?r; (case a => walk_at "ev"); (case b => walk_at "ev"); (case r => walk_at "bin"))
  | (refine' ev_un ?a ?r; (case a => walk_at "ev"); (case r => exact un_negI))
  | (refine' ev_call (by assumption) (by assumption) (by decide) rfl ?a ?r; (case a => walk_at "ea"); (case r => walk_at "rel"))
  | (refine' ev_callB ?c rfl ?m ?b ?a; (case b => walk_at "boot"); (case a => walk_at "ea"); (case m => walk_at "blt"); (case c => walk_at "call"))
  | (refine' ev_isi ?e rfl ?m rfl ?n ?b ?t ?k ?d; (case b => walk_at "boot"); (case e => walk_at "ev"); (case m => walk_at "blt"); (case n => walk_at "blt"); (case t => walk_at "ty"); (case k => walk_at "kit"); (case d => decide))
  | (refine' ev_m1 PySem.F.slot_str_count PySem.F.type_str_count ?m ?t ?o ?e; (case o => walk_at "ev"); (case t => walk_at "ty"); (case e => walk_at "ev"); (case m => first | with_reducible exact mt_countWn | with_reducible exact mt_countWw | with_reducible exact mt_countWs | with_reducible exact mt_countWe))
  | (refine' ev_m1 PySem.F.slot_str_index PySem.F.type_str_index ?m ?t ?o ?e; (case o => walk_at "ev"); (case t => walk_at "ty"); (case e => walk_at "ev"); (case m => exact mt_indexW))
  | (refine' ev_m1 PySem.F.slot_str_strip PySem.F.type_str_strip ?m ?t ?o ?e; (case o => walk_at "ev"); (case t => walk_at "ty"); (case e => walk_at "ev"); (case m => exact mt_stripW (by walk_at "len")))
  | (refine' ev_ix ?a ?b ?r; (case a => walk_at "ev"); (case b => walk_at "ev"); (case r => walk_at "ix"))
  | (refine' EvL.d ?a; (case a => walk_at "el"))
  | exact ev_globS rfl (by assumption)
  | with_reducible exact ev_bl | with_reducible exact ev_non)
local macro_rules | `(tactic| walk_at "blt") => `(tactic| first
  | exact Blt.isinstance (by assumption) | exact Blt.int (by assumption) | exact Blt.bool (by assumption) | exact Blt.str (by assumption) | exact Blt.list (by assumption) | exact Blt.tuple (by assumption) | exact Blt.range (by assumption) | exact Blt.len (by assumption) | exact Blt.sum (by assumption) | exact Blt.abs (by assumption) | exact Blt.min (by assumption) | exact Blt.all (by assumption) | exact Blt.any (by assumption) | exact Blt.sorted (by assumption) | exact Blt.set (by assumption) | exact Blt.enumerate (by assumption) | exact Blt.zip (by assumption) | exact Blt.reversed (by assumption))
local macro_rules | `(tactic| walk_at "call") => `(tactic| first | exact ev_lenW (by walk_at "len") | exact call_lenL | exact call_lenT | exact call_absI | exact call_minI rfl | exact call_sumI rfl)
local macro_rules | `(tactic| walk_at "et") => `(tactic| (refine' EvT.is ?a ?b; (case a => walk_at "et0"); (case b => rfl)))
local macro_rules | `(tactic| walk_at "evg") => `(tactic| (refine' Ev.is ?a ?b; (case a => walk_at "ev"); (case b => rfl)))
local macro_rules | `(tactic| walk_at "et0") => `(tactic| first
  | (refine' et_not ?a; (case a => walk_at "et0"))
  | (refine' et_cmp ?a ?b ?r ?m; (case a => walk_at "ev"); (case b => walk_at "ev"); (case r => walk_at "cmp"); (case m => walk_at "mark"))
  | (refine' et_val ?a ?h; (case a => walk_at "ev"); (case h => (intro _; rfl))))
local macro_rules | `(tactic| walk_at "boot") => `(tactic| first | with_reducible exact b_int | with_reducible exact b_bool | with_reducible exact b_str | with_reducible exact b_list | with_reducible exact b_tuple | with_reducible exact b_range | with_reducible exact b_set | with_reducible exact b_enumerate | with_reducible exact b_zip | with_reducible exact b_reversed | with_reducible exact b_isinstance | with_reducible exact b_len | with_reducible exact b_sum | with_reducible exact b_abs | with_reducible exact b_min | with_reducible exact b_all | with_reducible exact b_any | with_reducible exact b_sorted)
local macro_rules | `(tactic| walk_at "ix") => `(tactic| first | exact ix_lett)
local macro_rules | `(tactic| walk_at "kit") => `(tactic| first | with_reducible exact k_int_int | with_reducible exact k_int_bool | with_reducible exact k_int_str | with_reducible exact k_int_list | with_reducible exact k_int_tuple | with_reducible exact k_bool_int | with_reducible exact k_bool_bool | with_reducible exact k_bool_str | with_reducible exact k_bool_list | with_reducible exact k_bool_tuple | with_reducible exact k_str_int | with_reducible exact k_str_bool | with_reducible exact k_str_str | with_reducible exact k_str_list | with_reducible exact k_str_tuple | with_reducible exact k_list_int | with_reducible exact k_list_bool | with_reducible exact k_list_str | with_reducible exact k_list_list | with_reducible exact k_list_tuple | with_reducible exact k_tuple_int | with_reducible exact k_tuple_bool | with_reducible exact k_tuple_str | with_reducible exact k_tuple_list | with_reducible exact k_tuple_tuple | with_reducible exact k_NoneType_int | with_reducible exact k_NoneType_bool | with_reducible exact k_NoneType_str | with_reducible exact k_NoneType_list | with_reducible exact k_NoneType_tuple)
local macro_rules | `(tactic| walk_at "ty") => `(tactic| first | with_reducible exact ty_int | with_reducible exact ty_W | with_reducible exact ty_ptD | with_reducible exact ty_bool | with_reducible exact ty_str | with_reducible exact ty_list | with_reducible exact ty_tuple | with_reducible exact ty_none)
local macro_rules | `(tactic| walk_at "rel") => `(tactic| first | exact ⟨_, by walk_at "len", rfl, rfl⟩ | exact ⟨_, _, by walk_at "len", rfl, rfl⟩ | exact ⟨_, rfl, rfl⟩ | exact ⟨_, _, rfl, rfl⟩)
local macro_rules | `(tactic| walk_at "ix") => `(tactic| first | exact ix_lett | exact ix_nesw)
local macro_rules | `(tactic| walk_at "le") => `(tactic| repeat first | exact .nil | refine .keep rfl ?_ | refine .skip ?_)
/-! ### the places within -/
def In4 (v : Wk) (q : Pt) : Prop := isIn v q ∧ isIn v (q.1 - 1, q.2) ∧ isIn v (q.1, q.2 - 1) ∧ isIn v (q.1 - 1, q.2 - 1)
theorem keys_ndF {v : Wk} (h : goAll (0, 0) v = (0, 0)) : ((sqF v).map (·.1)).Nodup := by
  have h1 := sqF_lt h
  unfold List.Nodup
  rw [List.pairwise_map]
  refine h1.imp fun {a b} (hab : ltP2 a.1 b.1) (z : a.1 = b.1) => ?_
  rw [z] at hab
  exact ltP2_irr _ hab
theorem inner_perm (v : Wk) : (inner v).Perm (((sqF v).map (·.1)).filter (four v)) := srtBy_perm ptD _
theorem inner_nd {v : Wk} (h : goAll (0, 0) v = (0, 0)) : (inner v).Nodup := (inner_perm v).nodup_iff.mpr ((keys_ndF h).filter _)
theorem inner_lt {v : Wk} (h : goAll (0, 0) v = (0, 0)) : (inner v).Pairwise ltP2 := srtP_lt ((keys_ndF h).filter _)
theorem mem_inner {v : Wk} (h : goAll (0, 0) v = (0, 0)) (q : Pt) : q ∈ inner v ↔ In4 v q := by
  rw [(inner_perm v).mem_iff, List.mem_filter, sqF_keys h]
  unfold four In4
  simp
theorem lt_uniq : ∀ {l m : List Pt}, l.Pairwise ltP2 → m.Pairwise ltP2 → (∀ q, q ∈ l ↔ q ∈ m) → l = m
  | [], [], _, _, _ => rfl
  | [], b :: m, _, _, h => absurd ((h b).mpr (List.mem_cons_self ..)) (by simp)
  | a :: l, [], _, _, h => absurd ((h a).mp (List.mem_cons_self ..)) (by simp)
  | a :: l, b :: m, h1, h2, h => by
    rw [List.pairwise_cons] at h1 h2
    have e : a = b := by
      rcases List.mem_cons.mp ((h a).mp (List.mem_cons_self ..)) with z | z
      · exact z
      · rcases List.mem_cons.mp ((h b).mpr (List.mem_cons_self ..)) with y | y
        · exact y.symm
        · exact absurd (ltP2_trans (h2.1 a z) (h1.1 b y)) (ltP2_irr b)
    subst e
    refine congrArg (a :: ·) (lt_uniq h1.2 h2.2 fun q => ?_)
    constructor
    · intro z
      rcases List.mem_cons.mp ((h q).mp (List.mem_cons_of_mem _ z)) with y | y
      · subst y
        exact absurd (h1.1 q z) (ltP2_irr q)
      · exact y
    · intro z
      rcases List.mem_cons.mp ((h q).mpr (List.mem_cons_of_mem _ z)) with y | y
      · subst y
        exact absurd (h2.1 q z) (ltP2_irr q)
      · exact y
theorem len_bij {l m : List Pt} (f g : Pt → Pt) (h1 : l.Nodup) (h2 : m.Nodup) (fg : ∀ q, f (g q) = q) (gf : ∀ q, g (f q) = q) (h : ∀ q, q ∈ l ↔ g q ∈ m) : l.length = m.length := by
  have hp : l.Perm (m.map f) := by
    refine (List.perm_ext_iff_of_nodup h1 (nodup_map (fun a b e => ?_) h2)).mpr fun q => ?_
    · rw [← gf a, ← gf b, e]
    · rw [h q, List.mem_map]
      constructor
      · intro z; exact ⟨_, z, fg q⟩
      · rintro ⟨a, z, rfl⟩; rw [gf]; exact z
  rw [hp.length_eq, List.length_map]
theorem isIn_mir {v : Wk} (h : goAll (0, 0) v = (0, 0)) (c y : Int) : isIn (v.map mir) (c, y) ↔ isIn v (-c - 1, y) := by
  unfold isIn
  have h1 := wn_mir (-c - 1) y v (0, 0)
  rw [rowS_closed h, show mirP (0, 0) = ((0, 0) : Pt) from rfl, show -(-c - 1) - 1 = c by omega] at h1
  show ¬ wn (0, 0) (v.map mir) c y = 0 ↔ ¬ wn (0, 0) v (-c - 1) y = 0
  omega
theorem In4_mir {v : Wk} (h : goAll (0, 0) v = (0, 0)) (q : Pt) : In4 (v.map mir) q ↔ In4 v (mirP q) := by
  obtain ⟨x, y⟩ := q
  unfold In4 mirP
  show isIn (v.map mir) (x, y) ∧ isIn (v.map mir) (x - 1, y) ∧ isIn (v.map mir) (x, y - 1) ∧ isIn (v.map mir) (x - 1, y - 1) ↔ isIn v (-x, y) ∧ isIn v (-x - 1, y) ∧ isIn v (-x, y - 1) ∧ isIn v (-x - 1, y - 1)
  rw [isIn_mir h, isIn_mir h, isIn_mir h, isIn_mir h, show -(x - 1) - 1 = -x by omega]
  constructor
  · rintro ⟨a, b, c, d⟩; exact ⟨b, a, d, c⟩
  · rintro ⟨a, b, c, d⟩; exact ⟨b, a, d, c⟩
theorem mir_end {v : Wk} (h : goAll (0, 0) v = (0, 0)) : goAll (0, 0) (v.map mir) = (0, 0) := by
  have := goAll_mir v (0, 0)
  rw [h] at this
  exact this
theorem back_end {v : Wk} (h : goAll (0, 0) v = (0, 0)) : goAll (0, 0) (backW v) = (0, 0) := by
  have := goAll_back v (0, 0)
  rwa [goAll_app, h] at this
theorem mirP_mirP (q : Pt) : mirP (mirP q) = q := Prod.ext (Int.neg_neg _) rfl
theorem inner_mir {v : Wk} (h : goAll (0, 0) v = (0, 0)) : (inner (v.map mir)).length = (inner v).length :=
  len_bij mirP mirP (inner_nd (mir_end h)) (inner_nd h) mirP_mirP mirP_mirP fun q => by rw [mem_inner (mir_end h), mem_inner h, In4_mir h]
theorem inner_mirS {v : Wk} (h : goAll (0, 0) v = (0, 0)) : inner (v.map mir) = srtP ((inner v).map mirP) := by
  have nd : ((inner v).map mirP).Nodup := nodup_map (fun a b e => by rw [← mirP_mirP a, ← mirP_mirP b, e]) (inner_nd h)
  refine lt_uniq (inner_lt (mir_end h)) (srtP_lt nd) fun q => ?_
  rw [mem_inner (mir_end h), In4_mir h, show q ∈ srtP ((inner v).map mirP) ↔ q ∈ (inner v).map mirP from (srtBy_perm ptD _).mem_iff, List.mem_map]
  constructor
  · intro z; exact ⟨_, (mem_inner h _).mpr z, mirP_mirP q⟩
  · rintro ⟨a, z, rfl⟩; rw [mirP_mirP]; exact (mem_inner h _).mp z
theorem inner_back {v : Wk} (h : goAll (0, 0) v = (0, 0)) : (inner (backW v)).length = (inner v).length := by
  have hi : ∀ q, isIn (backW v) q ↔ isIn v q := fun q => by
    unfold isIn
    have := wn_back q.1 q.2 v (0, 0)
    rw [h] at this
    omega
  refine len_bij id id (inner_nd (back_end h)) (inner_nd h) (fun _ => rfl) (fun _ => rfl) fun q => ?_
  rw [mem_inner (back_end h), show id q = q from rfl, mem_inner h]
  unfold In4
  rw [hi, hi, hi, hi]
theorem app_end {a b : Wk} (h : goAll (0, 0) (a ++ b) = (0, 0)) : goAll (0, 0) (b ++ a) = (0, 0) := by
  have hc : goAll (goAll (0, 0) a) b = (0, 0) := by rw [← goAll_app]; exact h
  have hs : shP (goAll (0, 0) a) (0, 0) = goAll (0, 0) a := Prod.ext (Int.zero_add _) (Int.zero_add _)
  have h1 := goAll_sh (goAll (0, 0) a) (b ++ a) (0, 0)
  rw [hs, goAll_app, hc] at h1
  have h2 := hs.trans h1
  unfold shP at h2
  injection h2 with h3 h4
  exact Prod.ext (by omega) (by omega)
theorem inner_app {a b : Wk} (h : goAll (0, 0) (a ++ b) = (0, 0)) : (inner (b ++ a)).length = (inner (a ++ b)).length := by
  have hi : ∀ c y : Int, isIn (b ++ a) (c, y) ↔ isIn (a ++ b) (c + (goAll (0, 0) a).1, y + (goAll (0, 0) a).2) := fun c y => by
    unfold isIn
    rw [wn_app_rot h]
  refine len_bij (shP (-(goAll (0, 0) a).1, -(goAll (0, 0) a).2)) (shP (goAll (0, 0) a)) (inner_nd (app_end h)) (inner_nd h) (fun q => ?_) (fun q => ?_) fun q => ?_
  · unfold shP
    exact Prod.ext (by show q.1 + _ + -_ = q.1; omega) (by show q.2 + _ + -_ = q.2; omega)
  · unfold shP
    exact Prod.ext (by show q.1 + -_ + _ = q.1; omega) (by show q.2 + -_ + _ = q.2; omega)
  · rw [mem_inner (app_end h), mem_inner h]
    unfold In4 shP
    rw [hi, hi, hi, hi]
    show _ ↔ isIn (a ++ b) (q.1 + (goAll (0, 0) a).1, q.2 + (goAll (0, 0) a).2) ∧ isIn (a ++ b) (q.1 + (goAll (0, 0) a).1 - 1, q.2 + (goAll (0, 0) a).2) ∧ isIn (a ++ b) (q.1 + (goAll (0, 0) a).1, q.2 + (goAll (0, 0) a).2 - 1) ∧ isIn (a ++ b) (q.1 + (goAll (0, 0) a).1 - 1, q.2 + (goAll (0, 0) a).2 - 1)
    rw [show q.1 + (goAll (0, 0) a).1 - 1 = q.1 - 1 + (goAll (0, 0) a).1 by omega, show q.2 + (goAll (0, 0) a).2 - 1 = q.2 - 1 + (goAll (0, 0) a).2 by omega]
theorem rot1_end {v : Wk} (h : goAll (0, 0) v = (0, 0)) : goAll (0, 0) (v.map (turnD 1)) = (0, 0) := by
  rw [goAll_rot0, h]; rfl
theorem isIn_rot1 {v : Wk} (h : goAll (0, 0) v = (0, 0)) (c y : Int) : isIn (v.map (turnD 1)) (c, y) ↔ isIn v (y, -c - 1) := by
  unfold isIn
  have h1 := wn_rot1 y (-c - 1) v (0, 0)
  have h2 := colS_eq y v (0, 0)
  rw [h] at h2
  rw [← wn_closed h, show rotP 1 (0, 0) = ((0, 0) : Pt) from rfl, show -(-c - 1) - 1 = c by omega] at h1
  show ¬ wn (0, 0) (v.map (turnD 1)) c y = 0 ↔ ¬ wn (0, 0) v y (-c - 1) = 0
  omega
theorem inner_rot1 {v : Wk} (h : goAll (0, 0) v = (0, 0)) : (inner (v.map (turnD 1))).length = (inner v).length := by
  refine len_bij (fun q => (-q.2, q.1)) (fun q => (q.2, -q.1)) (inner_nd (rot1_end h)) (inner_nd h) (fun q => Prod.ext (Int.neg_neg _) rfl) (fun q => Prod.ext rfl (Int.neg_neg _)) fun q => ?_
  obtain ⟨x, y⟩ := q
  rw [mem_inner (rot1_end h), mem_inner h]
  unfold In4
  show isIn (v.map (turnD 1)) (x, y) ∧ isIn (v.map (turnD 1)) (x - 1, y) ∧ isIn (v.map (turnD 1)) (x, y - 1) ∧ isIn (v.map (turnD 1)) (x - 1, y - 1) ↔ isIn v (y, -x) ∧ isIn v (y - 1, -x) ∧ isIn v (y, -x - 1) ∧ isIn v (y - 1, -x - 1)
  rw [isIn_rot1 h, isIn_rot1 h, isIn_rot1 h, isIn_rot1 h, show -(x - 1) - 1 = -x by omega]
  constructor
  · rintro ⟨a, b, c, d⟩; exact ⟨b, d, a, c⟩
  · rintro ⟨a, b, c, d⟩; exact ⟨c, a, d, b⟩
theorem turn_step (k : Nat) (v : Wk) : v.map (turnD ((k + 1 : Nat) : Int)) = (v.map (turnD (k : Int))).map (turnD 1) := by
  rw [List.map_map]
  apply List.map_congr_left
  intro d _
  show turnD ((k + 1 : Nat) : Int) d = turnD 1 (turnD (k : Int) d)
  rw [← turnD_mod ((k + 1 : Nat) : Int), ← turnD_mod (k : Int)]
  have : ((k : Int) % 4 = 0 ∧ ((k + 1 : Nat) : Int) % 4 = 1) ∨ ((k : Int) % 4 = 1 ∧ ((k + 1 : Nat) : Int) % 4 = 2) ∨ ((k : Int) % 4 = 2 ∧ ((k + 1 : Nat) : Int) % 4 = 3) ∨ ((k : Int) % 4 = 3 ∧ ((k + 1 : Nat) : Int) % 4 = 0) := by omega
  rcases this with ⟨z1, z2⟩ | ⟨z1, z2⟩ | ⟨z1, z2⟩ | ⟨z1, z2⟩ <;> rw [z1, z2] <;> cases d <;> rfl
theorem turn0 (v : Wk) : v.map (turnD 0) = v := by
  have : turnD 0 = id := funext fun d => by cases d <;> rfl
  rw [this, List.map_id]
theorem rot_all {v : Wk} (h : goAll (0, 0) v = (0, 0)) : ∀ k : Nat, goAll (0, 0) (v.map (turnD (k : Int))) = (0, 0) ∧ (inner (v.map (turnD (k : Int)))).length = (inner v).length ∧ areaW (0, 0) (v.map (turnD (k : Int))) = areaW (0, 0) v
  | 0 => by
    rw [show ((0 : Nat) : Int) = 0 from rfl, turn0]
    exact ⟨h, rfl, rfl⟩
  | k + 1 => by
    obtain ⟨h1, h2, h3⟩ := rot_all h k
    rw [turn_step]
    exact ⟨rot1_end h1, (inner_rot1 h1).trans h2, (area_rot1 h1).trans h3⟩
theorem rot_any {v : Wk} (h : goAll (0, 0) v = (0, 0)) (k : Int) : goAll (0, 0) (v.map (turnD k)) = (0, 0) ∧ (inner (v.map (turnD k))).length = (inner v).length ∧ areaW (0, 0) (v.map (turnD k)) = areaW (0, 0) v := by
  have := rot_all h (k % 4).toNat
  rwa [show (((k % 4).toNat : Nat) : Int) = k % 4 by omega, turnD_mod] at this
/-- what the law asks of a loop and its sign -/
structure Same (v u : Wk) (s : Int) : Prop where
  L : Loop u
  len : (inner u).length = (inner v).length
  area : areaW (0, 0) u = s * areaW (0, 0) v
  dif : ((tws u).count 1 : Int) - ((tws u).count 3 : Int) = s * (((tws v).count 1 : Int) - ((tws v).count 3 : Int))
  sum : ((tws u).count 1 : Int) + ((tws u).count 3 : Int) = ((tws v).count 1 : Int) + ((tws v).count 3 : Int)
theorem same_mir {v : Wk} (L : Loop v) : Same v (v.map mir) (-1) := by
  have ma : areaW (0, 0) (v.map mir) = - areaW (0, 0) v := area_mir v (0, 0)
  obtain ⟨c1, c2⟩ := count_ng (tws v) (tws_rng L.ne)
  rw [← tws_mir L.ne] at c1 c2
  exact ⟨loop_mir L, inner_mir L.cl, by omega, by omega, by omega⟩
theorem same_back {v : Wk} (L : Loop v) : Same v (backW v) (-1) := by
  have ba : areaW (0, 0) (backW v) = - areaW (0, 0) v := by
    have := areaW_back v (0, 0)
    rwa [L.cl] at this
  obtain ⟨c1, c2⟩ := count_ng (tws v) (tws_rng L.ne)
  rw [← (tws_back L.ne).count_eq] at c1 c2
  exact ⟨loop_back L, inner_back L.cl, by omega, by omega, by omega⟩
theorem same_rot {v : Wk} (L : Loop v) (k : Int) : Same v (v.map (turnD k)) 1 := by
  obtain ⟨_, h2, h3⟩ := rot_any L.cl k
  refine ⟨loop_rot L k, h2, by omega, ?_, ?_⟩ <;> rw [tws_rot k L.ne] <;> omega
theorem same_begun {v : Wk} (L : Loop v) (k : Int) : Same v (rotW v k) 1 := by
  have e : v.take (k % (v.length : Int)).toNat ++ v.drop (k % (v.length : Int)).toNat = v := List.take_append_drop ..
  have h1 := loop_app (a := v.take (k % (v.length : Int)).toNat) (b := v.drop (k % (v.length : Int)).toNat) (by rw [e]; exact L)
  have h2 := inner_app (a := v.take (k % (v.length : Int)).toNat) (b := v.drop (k % (v.length : Int)).toNat) (by rw [e]; exact L.cl)
  have h3 := tws_app (a := v.take (k % (v.length : Int)).toNat) (b := v.drop (k % (v.length : Int)).toNat)
  rw [e] at h2 h3
  have ha := (area_rotW L.cl k).1
  refine ⟨h1, h2, by omega, ?_, ?_⟩
  · unfold rotW
    rw [h3.count_eq, h3.count_eq]
    omega
  · unfold rotW
    rw [h3.count_eq, h3.count_eq]
end Sw

namespace Sw
open PySem PySem.Spec PyProof.Rows L2
local macro_rules | `(tactic| walk_at "vis") => `(tactic| first | exact .inl rfl | exact .inr (.inl rfl) | exact .inr (.inr rfl))
local macro_rules | `(tactic| walk_at "loc") => `(tactic| first | exact .inl rfl | exact .inr rfl)
local macro_rules | `(tactic| walk_at "str") => `(tactic| first | with_reducible exact s_ | with_reducible exact s_n | with_reducible exact s_w | with_reducible exact s_s | with_reducible exact s_e | with_reducible exact s_ns | with_reducible exact s_nwse | with_reducible exact s_nesw)
local macro_rules | `(tactic| walk_at "len") => `(tactic| first | omega | (simp; done) | (simp; omega))
local macro_rules | `(tactic| walk_at "bin") => `(tactic| first | with_reducible exact bin_addI | with_reducible exact bin_subI | with_reducible exact bin_modI (by omega) | with_reducible exact bin_addW (by walk_at "len"))
local macro_rules | `(tactic| walk_at "cmp") => `(tactic| first | with_reducible exact cmp_eqI | with_reducible exact cmp_neI | with_reducible exact cmp_eqW | with_reducible exact cmp_neW | with_reducible exact cmp_eqLn | with_reducible exact cmp_eqLw | with_reducible exact cmp_eqLs | with_reducible exact cmp_eqLe | with_reducible exact cmp_neLn | with_reducible exact cmp_neLw | with_reducible exact cmp_neLs | with_reducible exact cmp_neLe | with_reducible exact cmp_eqW0 | with_reducible exact cmp_neW0 | with_reducible exact cmp_eqL | with_reducible exact cmp_neL | with_reducible exact cmp_eqS | with_reducible exact cmp_neS | with_reducible exact cmp_ltI | with_reducible exact cmp_leI | with_reducible exact cmp_gtI | with_reducible exact cmp_geI | with_reducible exact cmp_inL | with_reducible exact cmp_inS)
local macro_rules | `(tactic| walk_at "mark") => `(tactic| first | exact nomark _ | rfl)
local macro_rules | `(tactic| walk_at "ea") => `(tactic| first | with_reducible exact ea_nil | (refine' ea_cons ?e ?r; (case e => walk_at "ev"); (case r => walk_at "ea")))
local macro_rules | `(tactic| walk_at "el") => `(tactic| first
  | (refine' evl_call (by assumption) (by assumption) (by decide) rfl ?a ?r; (case a => walk_at "ea"); (case r => walk_at "rel"))
  | (refine' evl_lst ?a ?l; (case a => walk_at "ea"); (case l => simp)))
local macro_rules | `(tactic| walk_at "ev") => `(tactic| first
  | with_reducible exact ev_int
  | (refine' ev_nm rfl ?v rfl rfl; (case v => walk_at "vis"))
  | (refine' ev_strS ?h; (case h => walk_at "str"))
  | (refine' ev_tup ?a ?l; (case a => walk_at "ea"); (case l => simp))
  | (refine' ev_bin ?a ?b ?r; (case a => walk_at "ev"); (case b => walk_at "ev"); (case r => walk_at "bin"))
  | (refine' ev_un ?a ?r; (case a => walk_at "ev"); (case r => exact un_negI))
  | (refine' ev_call (by assumption) (by assumption) (by decide) rfl ?a ?r; (case a => walk_at "ea"); (case r => walk_at "rel"))
  | (refine' ev_callB ?c rfl ?m ?b ?a; (case b => walk_at "boot"); (case a => walk_at "ea"); (case m => walk_at "blt"); (case c => walk_at "call"))
  | (refine' ev_isi ?e rfl ?m rfl ?n ?b ?t ?k ?d; (case b => walk_at "boot"); (case e => walk_at "ev"); (case m => walk_at "blt"); (case n => walk_at "blt"); (case t => walk_at "ty"); (case k => walk_at "kit"); (case d => decide))
  | (refine' ev_m1 PySem.F.slot_str_count PySem.F.type_str_count ?m ?t ?o ?e; (case o => walk_at "ev"); (case t => walk_at "ty"); (case e => walk_at "ev"); (case m => first | with_reducible exact mt_countWn | with_reducible exact mt_countWw | with_reducible exact mt_countWs | with_reducible exact mt_countWe))
  | (refine' ev_m1 PySem.F.slot_str_index PySem.F.type_str_index ?m ?t ?o ?e; (case o => walk_at "ev"); (case t => walk_at "ty"); (case e => walk_at "ev"); (case m => exact mt_indexW))
  | (refine' ev_m1 PySem.F.slot_str_strip PySem.F.type_str_strip ?m ?t ?o ?e; (case o => walk_at "ev"); (case t => walk_at "ty"); (case e => walk_at "ev"); (case m => exact mt_stripW (by walk_at "len")))
  | (refine' ev_ix ?a ?b ?r; (case a => walk_at "ev"); (case b => walk_at "ev"); (case r => walk_at "ix"))
  | (refine' EvL.d ?a; (case a => walk_at "el"))
  | exact ev_globS rfl (by assumption)
  | with_reducible exact ev_bl | with_reducible exact ev_non)
local macro_rules | `(tactic| walk_at "blt") => `(tactic| first
  | exact Blt.isinstance (by assumption) | exact Blt.int (by assumption) | exact Blt.bool (by assumption) | exact Blt.str (by assumption) | exact Blt.list (by assumption) | exact Blt.tuple (by assumption) | exact Blt.range (by assumption) | exact Blt.len (by assumption) | exact Blt.sum (by assumption) | exact Blt.abs (by assumption) | exact Blt.min (by assumption) | exact Blt.all (by assumption) | exact Blt.any (by assumption) | exact Blt.sorted (by assumption) | exact Blt.set (by assumption) | exact Blt.enumerate (by assumption) | exact Blt.zip (by assumption) | exact Blt.reversed (by assumption))
local macro_rules | `(tactic| walk_at "call") => `(tactic| first | exact ev_lenW (by walk_at "len") | exact call_lenL | exact call_lenT | exact call_absI | exact call_minI rfl | exact call_sumI rfl)
local macro_rules | `(tactic| walk_at "et") => `(tactic| (refine' EvT.is ?a ?b; (case a => walk_at "et0"); (case b => rfl)))
local macro_rules | `(tactic| walk_at "evg") => `(tactic| (refine' Ev.is ?a ?b; (case a => walk_at "ev"); (case b => rfl)))
local macro_rules | `(tactic| walk_at "et0") => `(tactic| first
  | (refine' et_not ?a; (case a => walk_at "et0"))
  | (refine' et_cmp ?a ?b ?r ?m; (case a => walk_at "ev"); (case b => walk_at "ev"); (case r => walk_at "cmp"); (case m => walk_at "mark"))
  | (refine' et_val ?a ?h; (case a => walk_at "ev"); (case h => (intro _; rfl))))
local macro_rules | `(tactic| walk_at "boot") => `(tactic| first | with_reducible exact b_int | with_reducible exact b_bool | with_reducible exact b_str | with_reducible exact b_list | with_reducible exact b_tuple | with_reducible exact b_range | with_reducible exact b_set | with_reducible exact b_enumerate | with_reducible exact b_zip | with_reducible exact b_reversed | with_reducible exact b_isinstance | with_reducible exact b_len | with_reducible exact b_sum | with_reducible exact b_abs | with_reducible exact b_min | with_reducible exact b_all | with_reducible exact b_any | with_reducible exact b_sorted)
local macro_rules | `(tactic| walk_at "ix") => `(tactic| first | exact ix_lett)
local macro_rules | `(tactic| walk_at "kit") => `(tactic| first | with_reducible exact k_int_int | with_reducible exact k_int_bool | with_reducible exact k_int_str | with_reducible exact k_int_list | with_reducible exact k_int_tuple | with_reducible exact k_bool_int | with_reducible exact k_bool_bool | with_reducible exact k_bool_str | with_reducible exact k_bool_list | with_reducible exact k_bool_tuple | with_reducible exact k_str_int | with_reducible exact k_str_bool | with_reducible exact k_str_str | with_reducible exact k_str_list | with_reducible exact k_str_tuple | with_reducible exact k_list_int | with_reducible exact k_list_bool | with_reducible exact k_list_str | with_reducible exact k_list_list | with_reducible exact k_list_tuple | with_reducible exact k_tuple_int | with_reducible exact k_tuple_bool | with_reducible exact k_tuple_str | with_reducible exact k_tuple_list | with_reducible exact k_tuple_tuple | with_reducible exact k_NoneType_int | with_reducible exact k_NoneType_bool | with_reducible exact k_NoneType_str | with_reducible exact k_NoneType_list | with_reducible exact k_NoneType_tuple)
local macro_rules | `(tactic| walk_at "ty") => `(tactic| first | with_reducible exact ty_int | with_reducible exact ty_W | with_reducible exact ty_ptD | with_reducible exact ty_bool | with_reducible exact ty_str | with_reducible exact ty_list | with_reducible exact ty_tuple | with_reducible exact ty_none)
local macro_rules | `(tactic| walk_at "rel") => `(tactic| first | exact ⟨_, by walk_at "len", rfl, rfl⟩ | exact ⟨_, _, by walk_at "len", rfl, rfl⟩ | exact ⟨_, rfl, rfl⟩ | exact ⟨_, _, rfl, rfl⟩)
local macro_rules | `(tactic| walk_at "ix") => `(tactic| first | exact ix_lett | exact ix_nesw)
local macro_rules | `(tactic| walk_at "le") => `(tactic| repeat first | exact .nil | refine .keep rfl ?_ | refine .skip ?_)
/-! ### the loop around bars -/
def vert (a b : Nat) : Wk := if a < b then List.replicate (b - a) .n else List.replicate (a - b) .s
def hl (h : Nat → Nat) : Nat → Nat
  | 0 => 0
  | k + 1 => h k
def rimN (h : Nat → Nat) : Nat → Wk
  | 0 => []
  | k + 1 => .w :: (vert (h k) (hl h k) ++ rimN h k)
def loopH (h : Nat → Nat) (n : Nat) : Wk := List.replicate n .e ++ (List.replicate (hl h n) .n ++ rimN h n)
theorem goAll_vert (x : Int) (a b : Nat) : goAll (x, (a : Int)) (vert a b) = (x, (b : Int)) := by
  unfold vert
  split <;> rw [goAll_rep] <;> refine Prod.ext ?_ ?_ <;> simp only [Dr.dx, Dr.dy] <;> omega
theorem goAll_rim (h : Nat → Nat) : ∀ k : Nat, goAll ((k : Int), (hl h k : Int)) (rimN h k) = (0, 0)
  | 0 => rfl
  | k + 1 => by
    show goAll (go (((k + 1 : Nat) : Int), (h k : Int)) .w) (vert (h k) (hl h k) ++ rimN h k) = _
    rw [show go (((k + 1 : Nat) : Int), (h k : Int)) .w = ((k : Int), (h k : Int)) by refine Prod.ext ?_ ?_ <;> simp only [go, Dr.dx, Dr.dy] <;> omega, goAll_app, goAll_vert, goAll_rim h k]
theorem goAll_e (n : Nat) : goAll (0, 0) (List.replicate n Dr.e) = ((n : Int), 0) := by
  rw [goAll_rep]
  refine Prod.ext ?_ ?_ <;> simp only [Dr.dx, Dr.dy] <;> omega
theorem goAll_n (x : Int) (m : Nat) : goAll (x, 0) (List.replicate m Dr.n) = (x, (m : Int)) := by
  rw [goAll_rep]
  refine Prod.ext ?_ ?_ <;> simp only [Dr.dx, Dr.dy] <;> omega
theorem loopH_end (h : Nat → Nat) (n : Nat) : goAll (0, 0) (loopH h n) = (0, 0) := by
  unfold loopH
  rw [goAll_app, goAll_e, goAll_app, goAll_n, goAll_rim]
theorem wv_app (c y : Int) : ∀ (a b : Wk) (p : Pt), wv p (a ++ b) c y = wv p a c y + wv (goAll p a) b c y
  | [], b, p => by
    show wv p b c y = 0 + _
    rw [Int.zero_add]
    rfl
  | d :: a, b, p => by
    rw [List.cons_append, wv_cons, wv_cons, wv_app c y a b (go p d), Int.add_assoc]
    rfl
theorem wv_n (c y : Int) : ∀ (m : Nat) (p : Pt), wv p (List.replicate m Dr.n) c y = 0
  | 0, _ => rfl
  | m + 1, p => by
    rw [List.replicate_succ, wv_cons, wv_n c y m]
    rfl
theorem wv_s (c y : Int) : ∀ (m : Nat) (p : Pt), wv p (List.replicate m Dr.s) c y = 0
  | 0, _ => rfl
  | m + 1, p => by
    rw [List.replicate_succ, wv_cons, wv_s c y m]
    rfl
theorem wv_vert (c y : Int) (a b : Nat) (p : Pt) : wv p (vert a b) c y = 0 := by
  unfold vert
  split
  · exact wv_n ..
  · exact wv_s ..
theorem wv_e (c y : Int) : ∀ (m : Nat) (p : Pt), wv p (List.replicate m Dr.e) c y = if y < p.2 ∧ p.1 ≤ c ∧ c < p.1 + m then -1 else 0
  | 0, p => by
    rw [if_neg (by omega)]
    rfl
  | m + 1, p => by
    rw [List.replicate_succ, wv_cons, wv_e c y m]
    show (if y < p.2 ∧ p.1 = c then (-1 : Int) else 0) + (if y < p.2 + 0 ∧ p.1 + 1 ≤ c ∧ c < p.1 + 1 + m then -1 else 0) = _
    (repeat' split) <;> omega
theorem wv_rim (h : Nat → Nat) (c y : Int) : ∀ k : Nat, wv ((k : Int), (hl h k : Int)) (rimN h k) c y = if 0 ≤ c ∧ c < k ∧ y < (h c.toNat : Int) then 1 else 0
  | 0 => by
    rw [if_neg (by omega)]
    rfl
  | k + 1 => by
    show wvS (((k + 1 : Nat) : Int), (h k : Int)) .w c y + wv (go (((k + 1 : Nat) : Int), (h k : Int)) .w) (vert (h k) (hl h k) ++ rimN h k) c y = _
    rw [show go (((k + 1 : Nat) : Int), (h k : Int)) .w = ((k : Int), (h k : Int)) by refine Prod.ext ?_ ?_ <;> simp only [go, Dr.dx, Dr.dy] <;> omega, wv_app, wv_vert, goAll_vert, wv_rim h c y k]
    show (if y < (h k : Int) ∧ ((k + 1 : Nat) : Int) - 1 = c then (1 : Int) else 0) + (0 + _) = _
    by_cases e : c = (k : Int)
    · subst e
      rw [Int.toNat_natCast]
      (repeat' split) <;> omega
    · (repeat' split) <;> omega
theorem wn_loopH (h : Nat → Nat) (n : Nat) (c y : Int) : wn (0, 0) (loopH h n) c y = if 0 ≤ c ∧ c < n ∧ 0 ≤ y ∧ y < (h c.toNat : Int) then 1 else 0 := by
  rw [wn_closed (loopH_end h n)]
  unfold loopH
  rw [wv_app, goAll_e, wv_app, goAll_n, wv_n, wv_rim, wv_e]
  show (if y < (0 : Int) ∧ (0 : Int) ≤ c ∧ c < 0 + (n : Int) then (-1 : Int) else 0) + (0 + _) = _
  (repeat' split) <;> omega
theorem isIn_loopH (h : Nat → Nat) (n : Nat) (q : Pt) : isIn (loopH h n) q ↔ 0 ≤ q.1 ∧ q.1 < n ∧ 0 ≤ q.2 ∧ q.2 < (h q.1.toNat : Int) := by
  unfold isIn
  rw [wn_loopH]
  split <;> simp_all
/-! its places -/
theorem ini_n : ∀ (m : Nat) (p : Pt), (ini p (List.replicate m Dr.n)).Nodup ∧ ∀ q ∈ ini p (List.replicate m Dr.n), q.1 = p.1 ∧ p.2 ≤ q.2 ∧ q.2 < p.2 + m
  | 0, p => ⟨List.nodup_nil, fun q hq => by cases hq⟩
  | m + 1, p => by
    obtain ⟨h1, h2⟩ := ini_n m (go p .n)
    have e : ini p (List.replicate (m + 1) Dr.n) = p :: ini (go p .n) (List.replicate m Dr.n) := rfl
    have g1 : (go p .n).1 = p.1 + 0 := rfl
    have g2 : (go p .n).2 = p.2 + 1 := rfl
    rw [e]
    refine ⟨List.nodup_cons.mpr ⟨fun z => ?_, h1⟩, fun q hq => ?_⟩
    · have := h2 p z
      omega
    · rcases List.mem_cons.mp hq with z | z
      · subst z; omega
      · have := h2 q z; omega
theorem ini_s : ∀ (m : Nat) (p : Pt), (ini p (List.replicate m Dr.s)).Nodup ∧ ∀ q ∈ ini p (List.replicate m Dr.s), q.1 = p.1 ∧ q.2 ≤ p.2 ∧ p.2 < q.2 + m
  | 0, p => ⟨List.nodup_nil, fun q hq => by cases hq⟩
  | m + 1, p => by
    obtain ⟨h1, h2⟩ := ini_s m (go p .s)
    have e : ini p (List.replicate (m + 1) Dr.s) = p :: ini (go p .s) (List.replicate m Dr.s) := rfl
    have g1 : (go p .s).1 = p.1 + 0 := rfl
    have g2 : (go p .s).2 = p.2 + -1 := rfl
    rw [e]
    refine ⟨List.nodup_cons.mpr ⟨fun z => ?_, h1⟩, fun q hq => ?_⟩
    · have := h2 p z
      omega
    · rcases List.mem_cons.mp hq with z | z
      · subst z; omega
      · have := h2 q z; omega
theorem ini_e : ∀ (m : Nat) (p : Pt), (ini p (List.replicate m Dr.e)).Nodup ∧ ∀ q ∈ ini p (List.replicate m Dr.e), q.2 = p.2 ∧ p.1 ≤ q.1 ∧ q.1 < p.1 + m
  | 0, p => ⟨List.nodup_nil, fun q hq => by cases hq⟩
  | m + 1, p => by
    obtain ⟨h1, h2⟩ := ini_e m (go p .e)
    have e : ini p (List.replicate (m + 1) Dr.e) = p :: ini (go p .e) (List.replicate m Dr.e) := rfl
    have g1 : (go p .e).1 = p.1 + 1 := rfl
    have g2 : (go p .e).2 = p.2 + 0 := rfl
    rw [e]
    refine ⟨List.nodup_cons.mpr ⟨fun z => ?_, h1⟩, fun q hq => ?_⟩
    · have := h2 p z
      omega
    · rcases List.mem_cons.mp hq with z | z
      · subst z; omega
      · have := h2 q z; omega
theorem ini_vert (x : Int) (a b : Nat) (ha : 1 ≤ a) : (ini (x, (a : Int)) (vert a b)).Nodup ∧ ∀ q ∈ ini (x, (a : Int)) (vert a b), q.1 = x ∧ 1 ≤ q.2 ∧ q.2 ≠ (b : Int) := by
  unfold vert
  split
  · obtain ⟨h1, h2⟩ := ini_n (b - a) (x, (a : Int))
    refine ⟨h1, fun q hq => ?_⟩
    have := h2 q hq
    simp only at this
    omega
  · obtain ⟨h1, h2⟩ := ini_s (a - b) (x, (a : Int))
    refine ⟨h1, fun q hq => ?_⟩
    have := h2 q hq
    simp only at this
    omega
theorem ini_rim (h : Nat → Nat) (hp : ∀ i, 1 ≤ h i) : ∀ k : Nat, (ini ((k : Int), (hl h k : Int)) (rimN h k)).Nodup ∧ ∀ q ∈ ini ((k : Int), (hl h k : Int)) (rimN h k), q.1 ≤ k ∧ 1 ≤ q.2 ∧ (q.1 = k → q.2 = (hl h k : Int))
  | 0 => ⟨List.nodup_nil, fun q hq => by cases hq⟩
  | k + 1 => by
    obtain ⟨h1, h2⟩ := ini_rim h hp k
    obtain ⟨g1, g2⟩ := ini_vert (k : Int) (h k) (hl h k) (hp k)
    have e : ini (((k + 1 : Nat) : Int), (hl h (k + 1) : Int)) (rimN h (k + 1)) = (((k + 1 : Nat) : Int), (h k : Int)) :: (ini ((k : Int), (h k : Int)) (vert (h k) (hl h k)) ++ ini ((k : Int), (hl h k : Int)) (rimN h k)) := by
      show _ :: ini (go (((k + 1 : Nat) : Int), (h k : Int)) .w) (vert (h k) (hl h k) ++ rimN h k) = _
      rw [show go (((k + 1 : Nat) : Int), (h k : Int)) .w = ((k : Int), (h k : Int)) by refine Prod.ext ?_ ?_ <;> simp only [go, Dr.dx, Dr.dy] <;> omega, ini_app, goAll_vert]
      rfl
    have hk := hp k
    rw [e]
    refine ⟨List.nodup_cons.mpr ⟨fun z => ?_, List.nodup_append.mpr ⟨g1, h1, fun a ha b hb z => ?_⟩⟩, fun q hq => ?_⟩
    · rcases List.mem_append.mp z with y | y
      · have := g2 _ y
        simp only at this
        omega
      · have := h2 _ y
        simp only at this
        omega
    · subst z
      have q1 := g2 a ha
      have q2 := h2 a hb
      omega
    · show q.1 ≤ ((k + 1 : Nat) : Int) ∧ 1 ≤ q.2 ∧ (q.1 = ((k + 1 : Nat) : Int) → q.2 = (h k : Int))
      rcases List.mem_cons.mp hq with z | z
      · subst z
        exact ⟨Int.le_refl _, by show 1 ≤ (h k : Int); omega, fun _ => rfl⟩
      · rcases List.mem_append.mp z with y | y
        · have := g2 _ y
          omega
        · have := h2 _ y
          omega
theorem ini_loopH (h : Nat → Nat) (hp : ∀ i, 1 ≤ h i) (n : Nat) : (ini (0, 0) (loopH h n)).Nodup := by
  obtain ⟨h1, h2⟩ := ini_rim h hp n
  obtain ⟨g1, g2⟩ := ini_n (hl h n) ((n : Int), 0)
  obtain ⟨f1, f2⟩ := ini_e n (0, 0)
  unfold loopH
  rw [ini_app, goAll_e, ini_app, goAll_n]
  refine List.nodup_append.mpr ⟨f1, List.nodup_append.mpr ⟨g1, h1, fun a ha b hb z => ?_⟩, fun a ha b hb z => ?_⟩
  · subst z
    have q1 := g2 a ha
    have q2 := h2 a hb
    simp only at q1
    omega
  · subst z
    have q0 := f2 a ha
    simp only at q0
    rcases List.mem_append.mp hb with y | y
    · have := g2 a y
      simp only at this
      omega
    · have := h2 a y
      omega
theorem vert_len (a b : Nat) : ((vert a b).length : Int) = if a < b then (b : Int) - a else (a : Int) - b := by
  unfold vert
  split <;> rw [List.length_replicate] <;> omega
theorem rim_len (h : Nat → Nat) (h5 : ∀ i, h i ≤ 5) : ∀ k, (rimN h k).length ≤ 6 * k
  | 0 => Nat.le_refl _
  | k + 1 => by
    have h1 := rim_len h h5 k
    have h2 := vert_len (h k) (hl h k)
    have h3 := h5 k
    have h4 : hl h k ≤ 5 := by
      cases k with
      | zero => exact Nat.zero_le _
      | succ k => exact h5 k
    show (vert (h k) (hl h k) ++ rimN h k).length + 1 ≤ _
    rw [List.length_append]
    split at h2 <;> omega
theorem loopH_len (h : Nat → Nat) (n : Nat) : (loopH h n).length = n + (hl h n + (rimN h n).length) := by
  unfold loopH
  rw [List.length_append, List.length_append, List.length_replicate, List.length_replicate]
theorem loop_H (h : Nat → Nat) (hp : ∀ i, 1 ≤ h i) (h5 : ∀ i, h i ≤ 5) {n : Nat} (hn : 1 ≤ n) (h63 : n ≤ 63) : Loop (loopH h n) := by
  have h1 := rim_len h h5 n
  have h2 := loopH_len h n
  cases n with
  | zero => exact absurd hn (by decide)
  | succ k =>
    have h3 : hl h (k + 1) = h k := rfl
    have h4 := hp k
    have h6 := h5 k
    have h7 : 2 ≤ (rimN h (k + 1)).length := by
      show 2 ≤ (vert (h k) (hl h k) ++ rimN h k).length + 1
      rw [List.length_append]
      cases k with
      | zero =>
        have h8 := vert_len (h 0) (hl h 0)
        rw [show hl h 0 = 0 from rfl] at h8 ⊢
        split at h8 <;> omega
      | succ k =>
        show 2 ≤ _ + ((vert (h k) (hl h k) ++ rimN h k).length + 1) + 1
        omega
    exact loop_mk (by omega) (by omega) (loopH_end h _) (ini_loopH h hp _)
/-! its turns -/
theorem la_vert (a b : Nat) (z : Dr) (hz : z ≠ .e) : la z (vert a b) ≠ .e := by
  unfold vert
  split
  · have : 0 < b - a := by omega
    cases hm : b - a with
    | zero => omega
    | succ m =>
      show la .n (List.replicate m .n) ≠ .e
      rw [la_rep]
      decide
  · cases hm : a - b with
    | zero => exact hz
    | succ m =>
      show la .s (List.replicate m .s) ≠ .e
      rw [la_rep]
      decide
theorem goods_vert (a b : Nat) : goods .w (vert a b) := by
  unfold vert
  split
  · cases b - a with
    | zero => trivial
    | succ m => exact ⟨.inr (.inr rfl), goods_rep _ _⟩
  · cases a - b with
    | zero => trivial
    | succ m => exact ⟨.inr (.inl rfl), goods_rep _ _⟩
theorem goods_rim (h : Nat → Nat) : ∀ (k : Nat) (a : Dr), a ≠ .e → goods a (rimN h k)
  | 0, _, _ => trivial
  | k + 1, a, ha => by
    refine ⟨?_, goods_app _ _ _ (goods_vert _ _) (goods_rim h k _ (la_vert _ _ _ (by decide)))⟩
    unfold good
    cases a <;> first | exact absurd rfl ha | decide
theorem la_rim (h : Nat → Nat) (h0 : 1 ≤ h 0) : ∀ (k : Nat) (a : Dr), la a (rimN h (k + 1)) = .s
  | 0, a => by
    show la .w (vert (h 0) 0 ++ []) = .s
    rw [List.append_nil]
    unfold vert
    rw [if_neg (by omega), Nat.sub_zero]
    cases hm : h 0 with
    | zero => omega
    | succ m => exact la_rep .s m
  | k + 1, a => by
    show la .w (vert (h (k + 1)) (h k) ++ rimN h (k + 1)) = .s
    rw [la_app]
    exact la_rim h h0 k _
theorem tws_H (h : Nat → Nat) (hp : ∀ i, 1 ≤ h i) {n : Nat} (hn : 1 ≤ n) : ((tws (loopH h n)).count 1 : Int) - ((tws (loopH h n)).count 3 : Int) = 4 ∧ ∀ t ∈ tws (loopH h n), t ≠ 2 := by
  cases n with
  | zero => exact absurd hn (by decide)
  | succ k =>
    have e : loopH h (k + 1) = .e :: (List.replicate k .e ++ (List.replicate (h k) .n ++ rimN h (k + 1))) := rfl
    have hs : ∀ a, la a (List.replicate k .e ++ (List.replicate (h k) .n ++ rimN h (k + 1))) = .s := fun a => by rw [la_app, la_app, la_rim h (hp 0)]
    have hg : goods .e (List.replicate k .e ++ (List.replicate (h k) .n ++ rimN h (k + 1))) := by
      refine goods_app _ _ _ (goods_rep _ _) ?_
      rw [la_rep]
      have := hp k
      cases hm : h k with
      | zero => omega
      | succ m =>
        refine ⟨.inr (.inl rfl), goods_app _ _ _ (goods_rep _ _) ?_⟩
        rw [la_rep]
        exact goods_rim h (k + 1) .n (by decide)
    obtain ⟨h1, h2⟩ := goods_cnt _ _ hg
    rw [hs] at h1
    have et : tws (loopH h (k + 1)) = 1 :: twL .e (List.replicate k .e ++ (List.replicate (h k) .n ++ rimN h (k + 1))) := by
      rw [tws_eq (by rw [e]; exact List.cons_ne_nil _ _), e]
      show tw (la .e _) .e :: _ = _
      rw [hs]
      rfl
    rw [et]
    refine ⟨?_, fun t ht => ?_⟩
    · rw [List.count_cons, List.count_cons]
      simp only [beq_iff_eq]
      rw [if_pos trivial, if_neg (by decide)]
      have : un .s - un .e = 3 := rfl
      omega
    · rcases List.mem_cons.mp ht with z | z
      · rw [z]; decide
      · exact h2 t z
/-! its squares, its places within -/
def colP (k : Int) (a m : Nat) : List Pt := (List.range m).map fun u : Nat => (k, ((a + u : Nat) : Int))
theorem mem_col (k : Int) (a m : Nat) (q : Pt) : q ∈ colP k a m ↔ q.1 = k ∧ (a : Int) ≤ q.2 ∧ q.2 < (a : Int) + m := by
  unfold colP
  rw [List.mem_map]
  constructor
  · rintro ⟨u, hu, rfl⟩
    rw [List.mem_range] at hu
    refine ⟨rfl, ?_, ?_⟩ <;> simp only <;> omega
  · rintro ⟨h1, h2, h3⟩
    refine ⟨(q.2 - a).toNat, List.mem_range.mpr (by omega), Prod.ext h1.symm ?_⟩
    simp only
    omega
theorem col_lt (k : Int) (a m : Nat) : (colP k a m).Pairwise ltP2 := by
  unfold colP
  rw [List.pairwise_map]
  exact List.pairwise_lt_range.imp fun {x y} h => .inr ⟨rfl, by simp only; omega⟩
def duP (h : Nat → Nat) : Nat → List Pt
  | 0 => []
  | k + 1 => duP h k ++ colP k 0 (h k)
def inP (h : Nat → Nat) : Nat → List Pt
  | 0 => []
  | k + 1 => inP h k ++ colP ((k + 1 : Nat) : Int) 1 (min (h k) (h (k + 1)) - 1)
theorem mem_du (h : Nat → Nat) (q : Pt) : ∀ k : Nat, q ∈ duP h k ↔ 0 ≤ q.1 ∧ q.1 < k ∧ 0 ≤ q.2 ∧ q.2 < (h q.1.toNat : Int)
  | 0 => by
    constructor
    · intro z; cases z
    · intro z; omega
  | k + 1 => by
    show q ∈ duP h k ++ _ ↔ _
    rw [List.mem_append, mem_du h q k, mem_col]
    by_cases e : q.1 = (k : Int)
    · rw [e, Int.toNat_natCast]; omega
    · omega
theorem du_lt (h : Nat → Nat) : ∀ k : Nat, (duP h k).Pairwise ltP2
  | 0 => List.Pairwise.nil
  | k + 1 => List.pairwise_append.mpr ⟨du_lt h k, col_lt _ _ _, fun a ha b hb => by
    have h1 := (mem_du h a k).mp ha
    have h2 := (mem_col _ _ _ b).mp hb
    exact .inl (by omega)⟩
theorem mem_inP (h : Nat → Nat) (q : Pt) : ∀ k : Nat, q ∈ inP h k ↔ 1 ≤ q.1 ∧ q.1 ≤ k ∧ 1 ≤ q.2 ∧ q.2 < (h q.1.toNat : Int) ∧ q.2 < (h (q.1 - 1).toNat : Int)
  | 0 => by
    constructor
    · intro z; cases z
    · intro z; omega
  | k + 1 => by
    show q ∈ inP h k ++ _ ↔ _
    rw [List.mem_append, mem_inP h q k, mem_col]
    by_cases e : q.1 = ((k + 1 : Nat) : Int)
    · rw [e, Int.toNat_natCast, show (((k + 1 : Nat) : Int) - 1).toNat = k by omega]; omega
    · omega
theorem inP_lt (h : Nat → Nat) : ∀ k : Nat, (inP h k).Pairwise ltP2
  | 0 => List.Pairwise.nil
  | k + 1 => List.pairwise_append.mpr ⟨inP_lt h k, col_lt _ _ _, fun a ha b hb => by
    have h1 := (mem_inP h a k).mp ha
    have h2 := (mem_col _ _ _ b).mp hb
    exact .inl (by omega)⟩
theorem sqF_H (h : Nat → Nat) (n : Nat) : sqF (loopH h n) = (duP h n).map fun q => (q, 1) := by
  have hc := loopH_end h n
  have h1 : (sqF (loopH h n)).map (·.1) = duP h n := by
    refine lt_uniq ?_ (du_lt h n) fun q => ?_
    · rw [List.pairwise_map]
      exact sqF_lt hc
    · rw [sqF_keys hc, isIn_loopH, mem_du]
  rw [← h1, List.map_map]
  refine (List.map_id' (sqF (loopH h n))).symm.trans (List.map_congr_left fun e he => ?_)
  obtain ⟨h2, h3⟩ := (sqF_mem hc e).mp he
  rw [wn_loopH] at h2
  refine Prod.ext rfl ?_
  show e.2 = 1
  split at h2
  · exact h2
  · exact absurd h2 h3
theorem inner_H (h : Nat → Nat) (n : Nat) : inner (loopH h (n + 1)) = inP h n := by
  have hc := loopH_end h (n + 1)
  refine lt_uniq (inner_lt hc) (inP_lt h n) fun q => ?_
  rw [mem_inner hc, mem_inP]
  unfold In4
  rw [isIn_loopH, isIn_loopH, isIn_loopH, isIn_loopH]
  simp only
  omega
def sumH (h : Nat → Nat) : Nat → Int
  | 0 => 0
  | k + 1 => sumH h k + (h k : Int)
theorem du_len (h : Nat → Nat) : ∀ k : Nat, ((duP h k).length : Int) = sumH h k
  | 0 => rfl
  | k + 1 => by
    show (((duP h k ++ colP k 0 (h k)).length : Nat) : Int) = sumH h k + (h k : Int)
    rw [List.length_append, ← du_len h k]
    unfold colP
    rw [List.length_map, List.length_range]
    omega
theorem sum_ones : ∀ l : List Pt, ((l.map fun q : Pt => ((q, 1) : Pt × Int)).map (·.2)).sum = (l.length : Int)
  | [] => rfl
  | q :: l => by
    rw [List.map_cons, List.map_cons, List.sum_cons, sum_ones l, List.length_cons]
    omega
theorem area_H (h : Nat → Nat) (n : Nat) : areaW (0, 0) (loopH h n) = sumH h n := by
  rw [← sqF_sum (loopH_end h n), sqF_H, sum_ones, du_len]
theorem pick_H (h : Nat → Nat) (hp : ∀ i, 1 ≤ h i) : ∀ n : Nat, 2 * (sumH h (n + 1) - ((inP h n).length : Int) + 1) = ((loopH h (n + 1)).length : Int)
  | 0 => by
    rw [loopH_len]
    show 2 * (0 + (h 0 : Int) - 0 + 1) = (((0 + 1) + (h 0 + ((vert (h 0) 0 ++ []).length + 1)) : Nat) : Int)
    have := vert_len (h 0) 0
    rw [List.append_nil]
    split at this <;> omega
  | n + 1 => by
    have ih := pick_H h hp n
    rw [loopH_len] at ih ⊢
    have e1 : sumH h (n + 1 + 1) = sumH h (n + 1) + (h (n + 1) : Int) := rfl
    have e2 : (inP h (n + 1)).length = (inP h n).length + (min (h n) (h (n + 1)) - 1) := by
      show (inP h n ++ _).length = _
      rw [List.length_append]
      unfold colP
      rw [List.length_map, List.length_range]
    have e3 : (rimN h (n + 1 + 1)).length = (vert (h (n + 1)) (h n)).length + (rimN h (n + 1)).length + 1 := by
      show (vert (h (n + 1)) (h n) ++ rimN h (n + 1)).length + 1 = _
      rw [List.length_append]
    have e4 : hl h (n + 1 + 1) = h (n + 1) := rfl
    have e5 : hl h (n + 1) = h n := rfl
    have e6 := vert_len (h (n + 1)) (h n)
    have p1 := hp n
    have p2 := hp (n + 1)
    rw [e1, e2, e3, e4]
    rw [e5] at ih
    split at e6 <;> omega
end Sw

namespace Sw
open PySem PySem.Spec PyProof.Rows L2
local macro_rules | `(tactic| walk_at "vis") => `(tactic| first | exact .inl rfl | exact .inr (.inl rfl) | exact .inr (.inr rfl))
local macro_rules | `(tactic| walk_at "loc") => `(tactic| first | exact .inl rfl | exact .inr rfl)
local macro_rules | `(tactic| walk_at "str") => `(tactic| first | with_reducible exact s_ | with_reducible exact s_n | with_reducible exact s_w | with_reducible exact s_s | with_reducible exact s_e | with_reducible exact s_ns | with_reducible exact s_nwse | with_reducible exact s_nesw)
local macro_rules | `(tactic| walk_at "len") => `(tactic| first | omega | (simp; done) | (simp; omega))
local macro_rules | `(tactic| walk_at "bin") => `(tactic| first | with_reducible exact bin_addI | with_reducible exact bin_subI | with_reducible exact bin_modI (by omega) | with_reducible exact bin_addW (by walk_at "len"))
local macro_rules | `(tactic| walk_at "cmp") => `(tactic| first | with_reducible exact cmp_eqI | with_reducible exact cmp_neI | with_reducible exact cmp_eqW | with_reducible exact cmp_neW | with_reducible exact cmp_eqLn | with_reducible exact cmp_eqLw | with_reducible exact cmp_eqLs | with_reducible exact cmp_eqLe | with_reducible exact cmp_neLn | with_reducible exact cmp_neLw | with_reducible exact cmp_neLs | with_reducible exact cmp_neLe | with_reducible exact cmp_eqW0 | with_reducible exact cmp_neW0 | with_reducible exact cmp_eqL | with_reducible exact cmp_neL | with_reducible exact cmp_eqS | with_reducible exact cmp_neS | with_reducible exact cmp_ltI | with_reducible exact cmp_leI | with_reducible exact cmp_gtI | with_reducible exact cmp_geI | with_reducible exact cmp_inL | with_reducible exact cmp_inS)
local macro_rules | `(tactic| walk_at "mark") => `(tactic| first | exact nomark _ | rfl)
local macro_rules | `(tactic| walk_at "ea") => `(tactic| first | with_reducible exact ea_nil | (refine' ea_cons ?e ?r; (case e => walk_at "ev"); (case r => walk_at "ea")))
local macro_rules | `(tactic| walk_at "el") => `(tactic| first
  | (refine' evl_call (by assumption) (by assumption) (by decide) rfl ?a ?r; (case a => walk_at "ea"); (case r => walk_at "rel"))
  | (refine' evl_lst ?a ?l; (case a => walk_at "ea"); (case l => simp)))
local macro_rules | `(tactic| walk_at "ev") => `(tactic| first
  | with_reducible exact ev_int
  | (refine' ev_nm rfl ?v rfl rfl; (case v => walk_at "vis"))
  | (refine' ev_strS ?h; (case h => walk_at "str"))
  | (refine' ev_tup ?a ?l; (case a => walk_at "ea"); (case l => simp))
  | (refine' ev_bin ?a ?b ?r; (case a => walk_at "ev"); (case b => walk_at "ev"); (case r => walk_at "bin"))
  | (refine' ev_un ?a ?r; (case a => walk_at "ev"); (case r => exact un_negI))
  | (refine' ev_call (by assumption) (by assumption) (by decide) rfl ?a ?r; (case a => walk_at "ea"); (case r => walk_at "rel"))
  | (refine' ev_callB ?c rfl ?m ?b ?a; (case b => walk_at "boot"); (case a => walk_at "ea"); (case m => walk_at "blt"); (case c => walk_at "call"))
  | (refine' ev_isi ?e rfl ?m rfl ?n ?b ?t ?k ?d; (case b => walk_at "boot"); (case e => walk_at "ev"); (case m => walk_at "blt"); (case n => walk_at "blt"); (case t => walk_at "ty"); (case k => walk_at "kit"); (case d => decide))
  | (refine' ev_m1 PySem.F.slot_str_count PySem.F.type_str_count ?m ?t ?o ?e; (case o => walk_at "ev"); (case t => walk_at "ty"); (case e => walk_at "ev"); (case m => first | with_reducible exact mt_countWn | with_reducible exact mt_countWw | with_reducible exact mt_countWs | with_reducible exact mt_countWe))
  | (refine' ev_m1 PySem.F.slot_str_index PySem.F.type_str_index ?m ?t ?o ?e; (case o => walk_at "ev"); (case t => walk_at "ty"); (case e => walk_at "ev"); (case m => exact mt_indexW))
  | (refine' ev_m1 PySem.F.slot_str_strip PySem.F.type_str_strip ?m ?t ?o ?e; (case o => walk_at "ev"); (case t => walk_at "ty"); (case e => walk_at "ev"); (case m => exact mt_stripW (by walk_at "len")))
  | (refine' ev_ix ?a ?b ?r; (case a => walk_at "ev"); (case b => walk_at "ev"); (case r => walk_at "ix"))
  | (refine' EvL.d ?a; (case a => walk_at "el"))
  | exact ev_globS rfl (by assumption)
  | with_reducible exact ev_bl | with_reducible exact ev_non)
local macro_rules | `(tactic| walk_at "blt") => `(tactic| first
  | exact Blt.isinstance (by assumption) | exact Blt.int (by assumption) | exact Blt.bool (by assumption) | exact Blt.str (by assumption) | exact Blt.list (by assumption) | exact Blt.tuple (by assumption) | exact Blt.range (by assumption) | exact Blt.len (by assumption) | exact Blt.sum (by assumption) | exact Blt.abs (by assumption) | exact Blt.min (by assumption) | exact Blt.all (by assumption) | exact Blt.any (by assumption) | exact Blt.sorted (by assumption) | exact Blt.set (by assumption) | exact Blt.enumerate (by assumption) | exact Blt.zip (by assumption) | exact Blt.reversed (by assumption))
local macro_rules | `(tactic| walk_at "call") => `(tactic| first | exact ev_lenW (by walk_at "len") | exact call_lenL | exact call_lenT | exact call_absI | exact call_minI rfl | exact call_sumI rfl)
local macro_rules | `(tactic| walk_at "et") => `(tactic| (refine' EvT.is ?a ?b; (case a => walk_at "et0"); (case b => rfl)))
local macro_rules | `(tactic| walk_at "evg") => `(tactic| (refine' Ev.is ?a ?b; (case a => walk_at "ev"); (case b => rfl)))
local macro_rules | `(tactic| walk_at "et0") => `(tactic| first
  | (refine' et_not ?a; (case a => walk_at "et0"))
  | (refine' et_cmp ?a ?b ?r ?m; (case a => walk_at "ev"); (case b => walk_at "ev"); (case r => walk_at "cmp"); (case m => walk_at "mark"))
  | (refine' et_val ?a ?h; (case a => walk_at "ev"); (case h => (intro _; rfl))))
local macro_rules | `(tactic| walk_at "boot") => `(tactic| first | with_reducible exact b_int | with_reducible exact b_bool | with_reducible exact b_str | with_reducible exact b_list | with_reducible exact b_tuple | with_reducible exact b_range | with_reducible exact b_set | with_reducible exact b_enumerate | with_reducible exact b_zip | with_reducible exact b_reversed | with_reducible exact b_isinstance | with_reducible exact b_len | with_reducible exact b_sum | with_reducible exact b_abs | with_reducible exact b_min | with_reducible exact b_all | with_reducible exact b_any | with_reducible exact b_sorted)
local macro_rules | `(tactic| walk_at "ix") => `(tactic| first | exact ix_lett)
local macro_rules | `(tactic| walk_at "kit") => `(tactic| first | with_reducible exact k_int_int | with_reducible exact k_int_bool | with_reducible exact k_int_str | with_reducible exact k_int_list | with_reducible exact k_int_tuple | with_reducible exact k_bool_int | with_reducible exact k_bool_bool | with_reducible exact k_bool_str | with_reducible exact k_bool_list | with_reducible exact k_bool_tuple | with_reducible exact k_str_int | with_reducible exact k_str_bool | with_reducible exact k_str_str | with_reducible exact k_str_list | with_reducible exact k_str_tuple | with_reducible exact k_list_int | with_reducible exact k_list_bool | with_reducible exact k_list_str | with_reducible exact k_list_list | with_reducible exact k_list_tuple | with_reducible exact k_tuple_int | with_reducible exact k_tuple_bool | with_reducible exact k_tuple_str | with_reducible exact k_tuple_list | with_reducible exact k_tuple_tuple | with_reducible exact k_NoneType_int | with_reducible exact k_NoneType_bool | with_reducible exact k_NoneType_str | with_reducible exact k_NoneType_list | with_reducible exact k_NoneType_tuple)
local macro_rules | `(tactic| walk_at "ty") => `(tactic| first | with_reducible exact ty_int | with_reducible exact ty_W | with_reducible exact ty_ptD | with_reducible exact ty_bool | with_reducible exact ty_str | with_reducible exact ty_list | with_reducible exact ty_tuple | with_reducible exact ty_none)
local macro_rules | `(tactic| walk_at "rel") => `(tactic| first | exact ⟨_, by walk_at "len", rfl, rfl⟩ | exact ⟨_, _, by walk_at "len", rfl, rfl⟩ | exact ⟨_, rfl, rfl⟩ | exact ⟨_, _, rfl, rfl⟩)
local macro_rules | `(tactic| walk_at "ix") => `(tactic| first | exact ix_lett | exact ix_nesw)
local macro_rules | `(tactic| walk_at "le") => `(tactic| repeat first | exact .nil | refine .keep rfl ?_ | refine .skip ?_)
/-! ### trees of squares, and the loop around them -/
def stp (p : Pt) : Wk → List (Pt × Dr)
  | [] => []
  | d :: w => (p, d) :: stp (go p d) w
theorem stp_app : ∀ (a b : Wk) (p : Pt), stp p (a ++ b) = stp p a ++ stp (goAll p a) b
  | [], b, p => rfl
  | d :: a, b, p => congrArg ((p, d) :: ·) (stp_app a b (go p d))
theorem stp_ini : ∀ (w : Wk) (p : Pt), (stp p w).map (·.1) = ini p w
  | [], _ => rfl
  | d :: w, p => congrArg (p :: ·) (stp_ini w (go p d))
theorem stp_mem {w : Wk} {p : Pt} {e : Pt × Dr} (h : e ∈ stp p w) : e.1 ∈ ini p w := by
  rw [← stp_ini]
  exact List.mem_map.mpr ⟨e, h, rfl⟩
def lft (p : Pt) : Dr → Pt
  | .e => p
  | .n => (p.1 - 1, p.2)
  | .w => (p.1 - 1, p.2 - 1)
  | .s => (p.1, p.2 - 1)
def rgt (p : Pt) : Dr → Pt
  | .e => (p.1, p.2 - 1)
  | .n => p
  | .w => (p.1 - 1, p.2)
  | .s => (p.1 - 1, p.2 - 1)
def cellOf (p : Pt) : Pt := (2 * (p.1 / 2), 2 * (p.2 / 2))
structure Tree (T : List Pt) : Prop where
  nd : T.Nodup
  ev : ∀ q ∈ T, q.1 % 2 = 0 ∨ q.2 % 2 = 0
  cx : ∀ q ∈ T, q.1 % 2 = 1 → (q.1 - 1, q.2) ∈ T ∧ (q.1 + 1, q.2) ∈ T
  cy : ∀ q ∈ T, q.2 % 2 = 1 → (q.1, q.2 - 1) ∈ T ∧ (q.1, q.2 + 1) ∈ T
structure Rim (T : List Pt) (s : Pt) (v : Wk) : Prop where
  cl : goAll s v = s
  nd : (ini s v).Nodup
  ed : ∀ e ∈ stp s v, lft e.1 e.2 ∈ T ∧ rgt e.1 e.2 ∉ T
  co : ∀ p, p ∈ ini s v ↔ cellOf p ∈ T
  wn : ∀ c y, wn s v c y = if (c, y) ∈ T then 1 else 0
  tn : ((tws v).count 1 : Int) - ((tws v).count 3 : Int) = 4
  ln : v.length = 2 * T.length + 2
theorem ini_split : ∀ (v : Wk) (s p : Pt), p ∈ ini s v → ∃ a b, v = a ++ b ∧ goAll s a = p
  | [], _, _, h => by cases h
  | d :: v, s, p, h => by
    rcases List.mem_cons.mp h with h | h
    · exact ⟨[], d :: v, rfl, h.symm⟩
    · obtain ⟨a, b, h1, h2⟩ := ini_split v (go s d) p h
      exact ⟨d :: a, b, by rw [h1]; rfl, h2⟩
theorem Rim.rot {T : List Pt} {s p : Pt} {v : Wk} (R : Rim T s v) (h : p ∈ ini s v) : ∃ v', Rim T p v' := by
  obtain ⟨a, b, rfl, h2⟩ := ini_split v s p h
  have hb : goAll p b = s := by
    have := R.cl
    rwa [goAll_app, h2] at this
  have e1 : ini s (a ++ b) = ini s a ++ ini p b := by rw [ini_app, h2]
  have e2 : ini p (b ++ a) = ini p b ++ ini s a := by rw [ini_app, hb]
  have e3 : stp s (a ++ b) = stp s a ++ stp p b := by rw [stp_app, h2]
  have e4 : stp p (b ++ a) = stp p b ++ stp s a := by rw [stp_app, hb]
  have hp : (ini p (b ++ a)).Perm (ini s (a ++ b)) := by rw [e1, e2]; exact List.perm_append_comm
  have ht := tws_app (a := a) (b := b)
  refine ⟨b ++ a, by rw [goAll_app, hb, h2], hp.nodup_iff.mpr R.nd, fun e he => R.ed e ?_, fun q => ?_, fun c y => ?_, ?_, ?_⟩
  · rw [e4] at he
    rw [e3]
    exact List.perm_append_comm.mem_iff.mp he
  · rw [hp.mem_iff]
    exact R.co q
  · have := R.wn c y
    rw [wn_app, h2] at this
    rw [wn_app, hb, Int.add_comm]
    exact this
  · rw [ht.count_eq, ht.count_eq]
    exact R.tn
  · have := R.ln
    rw [List.length_append] at this ⊢
    omega
/-- one way on from each place -/
theorem way_one {T : List Pt} (H : Tree T) {p : Pt} {d d' : Dr} (h1 : lft p d ∈ T) (h2 : rgt p d ∉ T) (h3 : lft p d' ∈ T) (h4 : rgt p d' ∉ T) : d = d' := by
  obtain ⟨a, b⟩ := p
  have keyEW : (a, b) ∈ T → (a, b - 1) ∉ T → (a - 1, b - 1) ∈ T → (a - 1, b) ∉ T → False := fun g1 g2 g3 g4 => by
    have e1 := H.ev _ g1
    have e3 := H.ev _ g3
    by_cases z : a % 2 = 1
    · exact g4 (H.cx _ g1 z).1
    · by_cases z2 : b % 2 = 1
      · exact g2 (H.cy _ g1 z2).1
      · simp only at e3
        omega
  have keyNS : (a - 1, b) ∈ T → (a, b) ∉ T → (a, b - 1) ∈ T → (a - 1, b - 1) ∉ T → False := fun g1 g2 g3 g4 => by
    have e1 := H.ev _ g1
    have e3 := H.ev _ g3
    simp only at e1 e3
    by_cases z : (a - 1) % 2 = 1
    · have := (H.cx _ g1 z).2
      rw [show a - 1 + 1 = a by omega] at this
      exact g2 this
    · by_cases z2 : b % 2 = 1
      · exact g4 (H.cy _ g1 z2).1
      · omega
  cases d <;> cases d' <;> first
    | rfl
    | exact absurd h1 h4
    | exact absurd h3 h2
    | exact (keyEW h1 h2 h3 h4).elim
    | exact (keyEW h3 h4 h1 h2).elim
    | exact (keyNS h1 h2 h3 h4).elim
    | exact (keyNS h3 h4 h1 h2).elim
theorem rgt_at {p Q : Pt} {d : Dr} (h : rgt p d = Q) : (d = .e ∧ p = (Q.1, Q.2 + 1) ∧ lft p d = (Q.1, Q.2 + 1)) ∨ (d = .n ∧ p = Q ∧ lft p d = (Q.1 - 1, Q.2)) ∨ (d = .w ∧ p = (Q.1 + 1, Q.2) ∧ lft p d = (Q.1, Q.2 - 1)) ∨ (d = .s ∧ p = (Q.1 + 1, Q.2 + 1) ∧ lft p d = (Q.1 + 1, Q.2)) := by
  obtain ⟨a, b⟩ := p
  obtain ⟨x, y⟩ := Q
  cases d <;> simp [rgt, lft] at h ⊢ <;> omega
theorem wnS_n (p : Pt) (c y : Int) : wnS p .n c y = if p.2 = y ∧ c < p.1 then 1 else 0 := by
  show 1 * (if p.2 = y ∧ c < p.1 then (1 : Int) else 0) = _
  split <;> rfl
theorem wnS_s (p : Pt) (c y : Int) : wnS p .s c y = if p.2 - 1 = y ∧ c < p.1 then -1 else 0 := by
  show -1 * (if p.2 - 1 = y ∧ c < p.1 then (1 : Int) else 0) = _
  split <;> rfl
theorem wnS_e (p : Pt) (c y : Int) : wnS p .e c y = 0 := rfl
theorem wnS_w (p : Pt) (c y : Int) : wnS p .w c y = 0 := rfl
theorem rim_one : Rim [(0, 0)] (0, 0) [.e, .n, .w, .s] := by
  refine ⟨rfl, by decide, by decide, fun p => ?_, fun c y => ?_, by decide, rfl⟩
  · obtain ⟨a, b⟩ := p
    simp [ini, go, Dr.dx, Dr.dy, cellOf]
    omega
  · rw [wn_cons, wn_cons, wn_cons, wn_cons, wn_nil, wnS_e, wnS_n, wnS_w, wnS_s]
    simp only [go, Dr.dx, Dr.dy, List.mem_singleton, Prod.mk.injEq]
    (repeat' split) <;> omega
theorem tree_one : Tree [(0, 0)] := ⟨by decide, by decide, by decide, by decide⟩
/-! ### a tree grows, the loop with it -/
def sid (x y : Int) : Dr → Pt
  | .e => (x + 1, y)
  | .n => (x + 1, y + 1)
  | .w => (x, y + 1)
  | .s => (x, y)
def far (k : Int) (p : Pt) (d : Dr) : Pt := (p.1 + k * d.dx, p.2 + k * d.dy)
theorem turn_cnt (z d' : Dr) (r : Dr) (hz1 : z ≠ turnD 2 r) (hz2 : z ≠ turnD (-1) r) (hd1 : d' ≠ r) (hd2 : d' ≠ turnD (-1) r) (L : List Int) :
    (((tw z r :: tw r r :: tw r (turnD 1 r) :: tw (turnD 1 r) (turnD 2 r) :: tw (turnD 2 r) (turnD 2 r) :: tw (turnD 2 r) d' :: L).count 1 : Int) - ((tw z r :: tw r r :: tw r (turnD 1 r) :: tw (turnD 1 r) (turnD 2 r) :: tw (turnD 2 r) (turnD 2 r) :: tw (turnD 2 r) d' :: L).count 3 : Int)) = ((tw z (turnD 1 r) :: tw (turnD 1 r) d' :: L).count 1 : Int) - ((tw z (turnD 1 r) :: tw (turnD 1 r) d' :: L).count 3 : Int) := by
  cases r <;> cases z <;> first
    | exact absurd rfl hz1
    | exact absurd rfl hz2
    | (cases d' <;> first
      | exact absurd rfl hd1
      | exact absurd rfl hd2
      | (simp [List.count_cons, tw, turnD, Dr.ix, Dr.of] <;> omega))
theorem mem2 {T : List Pt} {N M q : Pt} : q ∈ T ++ [N, M] ↔ q ∈ T ∨ q = N ∨ q = M := by
  rw [List.mem_append]
  simp
theorem Tree.grow {T : List Pt} (H : Tree T) {x y : Int} (hx : x % 2 = 0) (hy : y % 2 = 0) (hX : (x, y) ∈ T) (r : Dr) (hN : far 2 (x, y) r ∉ T) : far 1 (x, y) r ∉ T ∧ Tree (T ++ [far 2 (x, y) r, far 1 (x, y) r]) := by
  have hM : far 1 (x, y) r ∉ T := fun z => by
    cases r with
    | e =>
      have := (H.cx _ z (by show (x + 1 * 1) % 2 = 1; omega)).2
      refine hN (Eq.mp (congrArg (· ∈ T) ?_) this)
      refine Prod.ext ?_ ?_ <;> simp [far, Dr.dx, Dr.dy] <;> omega
    | w =>
      have := (H.cx _ z (by show (x + 1 * -1) % 2 = 1; omega)).1
      refine hN (Eq.mp (congrArg (· ∈ T) ?_) this)
      refine Prod.ext ?_ ?_ <;> simp [far, Dr.dx, Dr.dy] <;> omega
    | n =>
      have := (H.cy _ z (by show (y + 1 * 1) % 2 = 1; omega)).2
      refine hN (Eq.mp (congrArg (· ∈ T) ?_) this)
      refine Prod.ext ?_ ?_ <;> simp [far, Dr.dx, Dr.dy] <;> omega
    | s =>
      have := (H.cy _ z (by show (y + 1 * -1) % 2 = 1; omega)).1
      refine hN (Eq.mp (congrArg (· ∈ T) ?_) this)
      refine Prod.ext ?_ ?_ <;> simp [far, Dr.dx, Dr.dy] <;> omega
  refine ⟨hM, ?_, ?_, ?_, ?_⟩
  · refine List.nodup_append.mpr ⟨H.nd, ?_, fun a ha b hb z => ?_⟩
    · refine List.nodup_cons.mpr ⟨fun z => ?_, List.nodup_cons.mpr ⟨by simp, List.nodup_nil⟩⟩
      rw [List.mem_singleton] at z
      cases r <;> simp [far, Dr.dx, Dr.dy] at z <;> omega
    · subst z
      rcases List.mem_cons.mp hb with h | h
      · exact hN (h ▸ ha)
      · rw [List.mem_singleton] at h
        exact hM (h ▸ ha)
  · intro q hq
    rcases mem2.mp hq with h | h | h
    · exact H.ev q h
    · subst h
      cases r <;> simp [far, Dr.dx, Dr.dy] <;> omega
    · subst h
      cases r <;> simp [far, Dr.dx, Dr.dy] <;> omega
  · intro q hq h1
    rw [mem2, mem2]
    rcases mem2.mp hq with h | h | h
    · have := H.cx q h h1
      exact ⟨.inl this.1, .inl this.2⟩
    · subst h
      cases r <;> simp [far, Dr.dx, Dr.dy] at h1 <;> omega
    · subst h
      cases r with
      | e => exact ⟨.inl (by rw [show ((far 1 (x, y) .e).1 - 1, (far 1 (x, y) .e).2) = (x, y) from Prod.ext (by simp [far, Dr.dx] <;> omega) (by simp [far, Dr.dy])]; exact hX), .inr (.inl (Prod.ext (by simp [far, Dr.dx] <;> omega) (by simp [far, Dr.dy])))⟩
      | w => exact ⟨.inr (.inl (Prod.ext (by simp [far, Dr.dx] <;> omega) (by simp [far, Dr.dy]))), .inl (by rw [show ((far 1 (x, y) .w).1 + 1, (far 1 (x, y) .w).2) = (x, y) from Prod.ext (by simp [far, Dr.dx] <;> omega) (by simp [far, Dr.dy])]; exact hX)⟩
      | n => simp [far, Dr.dx] at h1; omega
      | s => simp [far, Dr.dx] at h1; omega
  · intro q hq h1
    rw [mem2, mem2]
    rcases mem2.mp hq with h | h | h
    · have := H.cy q h h1
      exact ⟨.inl this.1, .inl this.2⟩
    · subst h
      cases r <;> simp [far, Dr.dx, Dr.dy] at h1 <;> omega
    · subst h
      cases r with
      | n => exact ⟨.inl (by rw [show ((far 1 (x, y) .n).1, (far 1 (x, y) .n).2 - 1) = (x, y) from Prod.ext (by simp [far, Dr.dx]) (by simp [far, Dr.dy] <;> omega)]; exact hX), .inr (.inl (Prod.ext (by simp [far, Dr.dx]) (by simp [far, Dr.dy] <;> omega)))⟩
      | s => exact ⟨.inr (.inl (Prod.ext (by simp [far, Dr.dx]) (by simp [far, Dr.dy] <;> omega))), .inl (by rw [show ((far 1 (x, y) .s).1, (far 1 (x, y) .s).2 + 1) = (x, y) from Prod.ext (by simp [far, Dr.dx]) (by simp [far, Dr.dy] <;> omega)]; exact hX)⟩
      | e => simp [far, Dr.dy] at h1; omega
      | w => simp [far, Dr.dy] at h1; omega
/-- a square that is not there has no neighbours there, if it is a node -/
theorem Tree.alone {T : List Pt} (H : Tree T) {N : Pt} (h1 : N.1 % 2 = 0) (h2 : N.2 % 2 = 0) (hN : N ∉ T) : (N.1 + 1, N.2) ∉ T ∧ (N.1 - 1, N.2) ∉ T ∧ (N.1, N.2 + 1) ∉ T ∧ (N.1, N.2 - 1) ∉ T := by
  obtain ⟨a, b⟩ := N
  simp only at h1 h2 ⊢
  refine ⟨fun z => ?_, fun z => ?_, fun z => ?_, fun z => ?_⟩
  · have := (H.cx _ z (by simp only; omega)).1
    simp only at this
    rw [show a + 1 - 1 = a by omega] at this
    exact hN this
  · have := (H.cx _ z (by simp only; omega)).2
    simp only at this
    rw [show a - 1 + 1 = a by omega] at this
    exact hN this
  · have := (H.cy _ z (by simp only; omega)).1
    simp only at this
    rw [show b + 1 - 1 = b by omega] at this
    exact hN this
  · have := (H.cy _ z (by simp only; omega)).2
    simp only at this
    rw [show b - 1 + 1 = b by omega] at this
    exact hN this
theorem Tree.odd {T : List Pt} (H : Tree T) {a b : Int} (h1 : a % 2 = 1) (h2 : b % 2 = 1) : (a, b) ∉ T := fun z => by
  have := H.ev _ z
  simp only at this
  omega
def way5 (r : Dr) : Wk := [r, r, turnD 1 r, turnD 2 r, turnD 2 r]
theorem wn_five (x y : Int) (r : Dr) (c w : Int) : wn (sid x y r) (way5 r) c w = wnS (sid x y r) (turnD 1 r) c w + (if (c, w) = far 2 (x, y) r ∨ (c, w) = far 1 (x, y) r then 1 else 0) := by
  have e : way5 r = [r, r, turnD 1 r, turnD 2 r, turnD 2 r] := rfl
  rw [e, wn_cons, wn_cons, wn_cons, wn_cons, wn_cons, wn_nil]
  cases r <;> simp only [show turnD 1 .e = .n from rfl, show turnD 2 .e = .w from rfl, show turnD 1 .n = .w from rfl, show turnD 2 .n = .s from rfl, show turnD 1 .w = .s from rfl, show turnD 2 .w = .e from rfl, show turnD 1 .s = .e from rfl, show turnD 2 .s = .n from rfl, wnS_e, wnS_n, wnS_w, wnS_s, go, Dr.dx, Dr.dy, sid, far, Prod.mk.injEq] <;> (repeat' split) <;> omega
theorem end_five (x y : Int) (r : Dr) : goAll (sid x y r) (way5 r) = go (sid x y r) (turnD 1 r) := by
  cases r <;> (refine Prod.ext ?_ ?_ <;> simp [goAll, go, Dr.dx, Dr.dy, sid, way5, turnD, Dr.ix, Dr.of] <;> omega)
theorem five_ed {x y : Int} (hx : x % 2 = 0) (hy : y % 2 = 0) (r : Dr) (e : Pt × Dr) (he : e ∈ stp (sid x y r) (way5 r)) :
    (lft e.1 e.2 = far 2 (x, y) r ∨ lft e.1 e.2 = far 1 (x, y) r) ∧ rgt e.1 e.2 ≠ far 1 (x, y) r ∧ rgt e.1 e.2 ≠ far 2 (x, y) r ∧
    (((rgt e.1 e.2).1 % 2 = 1 ∧ (rgt e.1 e.2).2 % 2 = 1) ∨ rgt e.1 e.2 = ((far 2 (x, y) r).1 + 1, (far 2 (x, y) r).2) ∨ rgt e.1 e.2 = ((far 2 (x, y) r).1 - 1, (far 2 (x, y) r).2) ∨ rgt e.1 e.2 = ((far 2 (x, y) r).1, (far 2 (x, y) r).2 + 1) ∨ rgt e.1 e.2 = ((far 2 (x, y) r).1, (far 2 (x, y) r).2 - 1)) := by
  cases r <;> simp only [way5, stp, List.mem_cons, List.not_mem_nil, or_false] at he <;> rcases he with rfl | rfl | rfl | rfl | rfl <;> simp [lft, rgt, far, sid, go, turnD, Dr.ix, Dr.of, Dr.dx, Dr.dy] <;> omega
theorem m_ed {x y : Int} (hx : x % 2 = 0) (hy : y % 2 = 0) (r : Dr) {p : Pt} {d : Dr} (h : rgt p d = far 1 (x, y) r) : p = sid x y r ∨ lft p d = far 2 (x, y) r ∨ ((lft p d).1 % 2 = 1 ∧ (lft p d).2 % 2 = 1) := by
  rcases rgt_at h with ⟨rfl, h1, h2⟩ | ⟨rfl, h1, h2⟩ | ⟨rfl, h1, h2⟩ | ⟨rfl, h1, h2⟩ <;> rw [h2] <;> subst h1 <;> cases r <;> simp [far, sid, Dr.dx, Dr.dy] <;> omega
theorem z_ed {x y : Int} (hx : x % 2 = 0) (hy : y % 2 = 0) (r : Dr) {p : Pt} (h : go p (turnD 2 r) = sid x y r) : (lft p (turnD 2 r)).1 % 2 = 1 ∧ (lft p (turnD 2 r)).2 % 2 = 1 := by
  obtain ⟨a, b⟩ := p
  have h1 := congrArg Prod.fst h
  have h2 := congrArg Prod.snd h
  cases r <;> simp [go, sid, turnD, Dr.ix, Dr.of, Dr.dx, Dr.dy, lft] at h1 h2 ⊢ <;> omega
theorem z_ed2 {x y : Int} (r : Dr) {p : Pt} (h : go p (turnD (-1) r) = sid x y r) : lft p (turnD (-1) r) = far 1 (x, y) r := by
  obtain ⟨a, b⟩ := p
  have h1 := congrArg Prod.fst h
  have h2 := congrArg Prod.snd h
  cases r <;> simp [go, sid, turnD, Dr.ix, Dr.of, Dr.dx, Dr.dy, lft, far] at h1 h2 ⊢ <;> omega
theorem d_ed {x y : Int} (hx : x % 2 = 0) (hy : y % 2 = 0) (r : Dr) : (lft (go (sid x y r) (turnD 1 r)) r).1 % 2 = 1 ∧ (lft (go (sid x y r) (turnD 1 r)) r).2 % 2 = 1 := by
  cases r <;> simp [go, sid, turnD, Dr.ix, Dr.of, Dr.dx, Dr.dy, lft] <;> omega
theorem d_ed2 (x y : Int) (r : Dr) : lft (go (sid x y r) (turnD 1 r)) (turnD (-1) r) = far 1 (x, y) r := by
  cases r <;> simp [go, sid, turnD, Dr.ix, Dr.of, Dr.dx, Dr.dy, lft, far] <;> omega
theorem Rim.grow {T : List Pt} {s0 : Pt} {v0 : Wk} (H : Tree T) (R0 : Rim T s0 v0) {x y : Int} (hx : x % 2 = 0) (hy : y % 2 = 0) (hX : (x, y) ∈ T) (r : Dr) (hN : far 2 (x, y) r ∉ T) :
    ∃ v, Rim (T ++ [far 2 (x, y) r, far 1 (x, y) r]) (sid x y r) v := by
  obtain ⟨hM, H'⟩ := H.grow hx hy hX r hN
  have hs : sid x y r ∈ ini s0 v0 := by
    rw [R0.co]
    refine Eq.mp (congrArg (· ∈ T) ?_) hX
    cases r <;> (refine Prod.ext ?_ ?_ <;> simp only [sid, cellOf] <;> omega)
  obtain ⟨v, R⟩ := R0.rot hs
  have hl0 : lft (sid x y r) (turnD 1 r) = (x, y) := by cases r <;> (refine Prod.ext ?_ ?_ <;> simp [sid, lft, turnD, Dr.ix, Dr.of])
  have hr0 : rgt (sid x y r) (turnD 1 r) = far 1 (x, y) r := by cases r <;> (refine Prod.ext ?_ ?_ <;> simp [sid, rgt, turnD, Dr.ix, Dr.of, far, Dr.dx, Dr.dy] <;> omega)
  have evN : (far 2 (x, y) r).1 % 2 = 0 ∧ (far 2 (x, y) r).2 % 2 = 0 := by cases r <;> simp [far, Dr.dx, Dr.dy] <;> omega
  have hal := H.alone evN.1 evN.2 hN
  obtain ⟨d0, u, rfl⟩ : ∃ d0 u, v = d0 :: u := by
    cases v with
    | nil =>
      have := R.ln
      simp at this
    | cons d0 u => exact ⟨d0, u, rfl⟩
  have h0 := R.ed (sid x y r, d0) (List.mem_cons_self ..)
  have hd : d0 = turnD 1 r := way_one H h0.1 h0.2 (by rw [hl0]; exact hX) (by rw [hr0]; exact hM)
  subst hd
  have hnd := List.nodup_cons.mp R.nd
  have hcl : goAll (go (sid x y r) (turnD 1 r)) u = sid x y r := R.cl
  have hu : u ≠ [] := by
    intro z
    rw [z] at hcl
    have : go (sid x y r) (turnD 1 r) ≠ sid x y r := by cases r <;> simp [go, sid, Prod.ext_iff, turnD, Dr.ix, Dr.of, Dr.dx, Dr.dy] <;> omega
    exact this hcl
  have hini : ini (sid x y r) (way5 r ++ u) = ini (sid x y r) (way5 r) ++ ini (go (sid x y r) (turnD 1 r)) u := by rw [ini_app, end_five]
  have hstp : stp (sid x y r) (way5 r ++ u) = stp (sid x y r) (way5 r) ++ stp (go (sid x y r) (turnD 1 r)) u := by rw [stp_app, end_five]
  -- the four new places
  have hnew : ∃ p1 p2 p3 p4 : Pt, ini (sid x y r) (way5 r) = [sid x y r, p1, p2, p3, p4] ∧ [p1, p2, p3, p4].Nodup ∧ ∀ p, p ∈ [p1, p2, p3, p4] ↔ cellOf p = far 2 (x, y) r := by
    refine ⟨_, _, _, _, rfl, ?_, fun p => ?_⟩
    · cases r <;> simp [go, sid, turnD, Dr.ix, Dr.of, Dr.dx, Dr.dy] <;> omega
    · obtain ⟨a, b⟩ := p
      cases r <;> simp [go, sid, turnD, Dr.ix, Dr.of, Dr.dx, Dr.dy, cellOf, far] <;> omega
  obtain ⟨p1, p2, p3, p4, hi5, hnd4, hcell⟩ := hnew
  have hold : ∀ p, p ∈ ini (sid x y r) (turnD 1 r :: u) ↔ cellOf p ∈ T := R.co
  have hcM : ∀ p, cellOf p ≠ far 1 (x, y) r := fun p z => by
    have h1 := congrArg Prod.fst z
    have h2 := congrArg Prod.snd z
    cases r <;> simp [cellOf, far, Dr.dx, Dr.dy] at h1 h2 <;> omega
  refine ⟨way5 r ++ u, ?_, ?_, ?_, ?_, ?_, ?_, ?_⟩
  · rw [goAll_app, end_five]
    exact hcl
  · rw [hini, hi5]
    show (sid x y r :: ([p1, p2, p3, p4] ++ ini (go (sid x y r) (turnD 1 r)) u)).Nodup
    have hno : ∀ p ∈ [p1, p2, p3, p4], p ∉ ini (sid x y r) (turnD 1 r :: u) := fun p hp z => by
      have h1 := (hcell p).mp hp
      have h2 := (hold p).mp z
      rw [h1] at h2
      exact hN h2
    refine List.nodup_cons.mpr ⟨fun z => ?_, List.nodup_append.mpr ⟨hnd4, hnd.2, fun a ha b hb e => ?_⟩⟩
    · rcases List.mem_append.mp z with h | h
      · exact hno _ h (List.mem_cons_self ..)
      · exact hnd.1 h
    · subst e
      exact hno a ha (List.mem_cons_of_mem _ hb)
  · intro e he
    rw [hstp] at he
    rcases List.mem_append.mp he with h | h
    · rw [mem2, mem2, not_or, not_or]
      obtain ⟨g1, g2, g3, g4⟩ := five_ed hx hy r e h
      refine ⟨.inr g1, fun z => ?_, g3, g2⟩
      rcases g4 with ⟨w1, w2⟩ | w | w | w | w
      · exact H.odd w1 w2 z
      · exact hal.1 (w ▸ z)
      · exact hal.2.1 (w ▸ z)
      · exact hal.2.2.1 (w ▸ z)
      · exact hal.2.2.2 (w ▸ z)
    · have h1 := R.ed e (List.mem_cons_of_mem _ h)
      rw [mem2, mem2, not_or, not_or]
      refine ⟨.inl h1.1, h1.2, fun z => ?_, fun z => ?_⟩
      · rcases rgt_at z with ⟨_, _, w⟩ | ⟨_, _, w⟩ | ⟨_, _, w⟩ | ⟨_, _, w⟩ <;> rw [w] at h1
        · exact hal.2.2.1 h1.1
        · exact hal.2.1 h1.1
        · exact hal.2.2.2 h1.1
        · exact hal.1 h1.1
      · have hin := stp_mem h
        rcases m_ed hx hy r z with w | w | w
        · rw [w] at hin
          exact hnd.1 hin
        · rw [w] at h1
          exact hN h1.1
        · exact H.odd w.1 w.2 h1.1
  · intro p
    rw [hini, hi5, mem2]
    show p ∈ sid x y r :: ([p1, p2, p3, p4] ++ ini (go (sid x y r) (turnD 1 r)) u) ↔ _
    rw [List.mem_cons, List.mem_append, hcell, ← hold p]
    show _ ↔ p ∈ sid x y r :: ini (go (sid x y r) (turnD 1 r)) u ∨ _
    rw [List.mem_cons]
    have := hcM p
    constructor
    · rintro (h | h | h)
      · exact .inl (.inl h)
      · exact .inr (.inl h)
      · exact .inl (.inr h)
    · rintro ((h | h) | h | h)
      · exact .inl h
      · exact .inr (.inr h)
      · exact .inr (.inl h)
      · exact absurd h this
  · intro c w
    have h1 := R.wn c w
    rw [wn_cons] at h1
    rw [wn_app, end_five, wn_five]
    have e : wnS (sid x y r) (turnD 1 r) c w + (if (c, w) = far 2 (x, y) r ∨ (c, w) = far 1 (x, y) r then 1 else 0) + Sw.wn (go (sid x y r) (turnD 1 r)) u c w = (if (c, w) ∈ T then 1 else 0) + (if (c, w) = far 2 (x, y) r ∨ (c, w) = far 1 (x, y) r then 1 else 0) := by omega
    rw [e]
    by_cases z : (c, w) ∈ T
    · rw [if_pos z, if_neg (fun y => by rcases y with y | y <;> rw [y] at z <;> contradiction), if_pos (mem2.mpr (.inl z))]
      rfl
    · rw [if_neg z]
      by_cases z2 : (c, w) = far 2 (x, y) r ∨ (c, w) = far 1 (x, y) r
      · rw [if_pos z2, if_pos (mem2.mpr (.inr z2))]
        rfl
      · rw [if_neg z2, if_neg (fun y => by rcases mem2.mp y with y | y <;> contradiction)]
        rfl
  · have h1 := R.tn
    rcases List.eq_nil_or_concat u with rfl | ⟨w, z, hw⟩
    · exact absurd rfl hu
    rw [List.concat_eq_append] at hw
    cases u with
    | nil => exact absurd rfl hu
    | cons d' u' =>
      have la1 : ∀ a, la a (d' :: u') = z := fun a => by rw [hw, la_app]; rfl
      have hz := R.ed (goAll (go (sid x y r) (turnD 1 r)) w, z) (List.mem_cons_of_mem _ (by
        rw [hw, stp_app]
        exact List.mem_append_right _ (List.mem_cons_self ..)))
      have hzc : go (goAll (go (sid x y r) (turnD 1 r)) w) z = sid x y r := by
        rw [hw, goAll_app] at hcl
        exact hcl
      have hd' := R.ed (go (sid x y r) (turnD 1 r), d') (List.mem_cons_of_mem _ (List.mem_cons_self ..))
      generalize goAll (go (sid x y r) (turnD 1 r)) w = pz at hz hzc
      rw [tws_eq (by simp)] at h1 ⊢
      have e1 : twL (la .n (turnD 1 r :: d' :: u')) (turnD 1 r :: d' :: u') = tw z (turnD 1 r) :: tw (turnD 1 r) d' :: twL d' u' := by
        show twL (la (turnD 1 r) (d' :: u')) _ = _
        rw [la1]
        rfl
      have e2 : twL (la .n (way5 r ++ d' :: u')) (way5 r ++ d' :: u') = tw z r :: tw r r :: tw r (turnD 1 r) :: tw (turnD 1 r) (turnD 2 r) :: tw (turnD 2 r) (turnD 2 r) :: tw (turnD 2 r) d' :: twL d' u' := by
        rw [la_app, la1]
        rfl
      rw [e1] at h1
      rw [e2, turn_cnt z d' r ?_ ?_ ?_ ?_]
      · exact h1
      · rintro rfl
        have w := z_ed hx hy r hzc
        exact H.odd w.1 w.2 hz.1
      · rintro rfl
        have w := z_ed2 r hzc
        rw [w] at hz
        exact hM hz.1
      · rintro rfl
        have w := d_ed hx hy d'
        exact H.odd w.1 w.2 hd'.1
      · rintro rfl
        have w := d_ed2 x y r
        simp only at hd'
        rw [w] at hd'
        exact hM hd'.1
  · have := R.ln
    rw [List.length_append, List.length_append]
    rw [List.length_cons] at this
    show 5 + u.length = 2 * (T.length + 2) + 2
    omega
end Sw

namespace Sw
open PySem PySem.Spec PyProof.Rows L2
local macro_rules | `(tactic| walk_at "vis") => `(tactic| first | exact .inl rfl | exact .inr (.inl rfl) | exact .inr (.inr rfl))
local macro_rules | `(tactic| walk_at "loc") => `(tactic| first | exact .inl rfl | exact .inr rfl)
local macro_rules | `(tactic| walk_at "str") => `(tactic| first | with_reducible exact s_ | with_reducible exact s_n | with_reducible exact s_w | with_reducible exact s_s | with_reducible exact s_e | with_reducible exact s_ns | with_reducible exact s_nwse | with_reducible exact s_nesw)
local macro_rules | `(tactic| walk_at "len") => `(tactic| first | omega | (simp; done) | (simp; omega))
local macro_rules | `(tactic| walk_at "bin") => `(tactic| first | with_reducible exact bin_addI | with_reducible exact bin_subI | with_reducible exact bin_modI (by omega) | with_reducible exact bin_addW (by walk_at "len"))
local macro_rules | `(tactic| walk_at "cmp") => `(tactic| first | with_reducible exact cmp_eqI | with_reducible exact cmp_neI | with_reducible exact cmp_eqW | with_reducible exact cmp_neW | with_reducible exact cmp_eqLn | with_reducible exact cmp_eqLw | with_reducible exact cmp_eqLs | with_reducible exact cmp_eqLe | with_reducible exact cmp_neLn | with_reducible exact cmp_neLw | with_reducible exact cmp_neLs | with_reducible exact cmp_neLe | with_reducible exact cmp_eqW0 | with_reducible exact cmp_neW0 | with_reducible exact cmp_eqL | with_reducible exact cmp_neL | with_reducible exact cmp_eqS | with_reducible exact cmp_neS | with_reducible exact cmp_ltI | with_reducible exact cmp_leI | with_reducible exact cmp_gtI | with_reducible exact cmp_geI | with_reducible exact cmp_inL | with_reducible exact cmp_inS)
local macro_rules | `(tactic| walk_at "mark") => `(tactic| first | exact nomark _ | rfl)
local macro_rules | `(tactic| walk_at "ea") => `(tactic| first | with_reducible exact ea_nil | (refine' ea_cons ?e ?r; (case e => walk_at "ev"); (case r => walk_at "ea")))
local macro_rules | `(tactic| walk_at "el") => `(tactic| first
  | (refine' evl_call (by assumption) (by assumption) (by decide) rfl ?a ?r; (case a => walk_at "ea"); (case r => walk_at "rel"))
  | (refine' evl_lst ?a ?l; (case a => walk_at "ea"); (case l => simp)))
local macro_rules | `(tactic| walk_at "ev") => `(tactic| first
  | with_reducible exact ev_int
  | (refine' ev_nm rfl ?v rfl rfl; (case v => walk_at "vis"))
  | (refine' ev_strS ?h; (case h => walk_at "str"))
  | (refine' ev_tup ?a ?l; (case a => walk_at "ea"); (case l => simp))
  | (refine' ev_bin ?a ?b ?r; (case a => walk_at "ev"); (case b => walk_at "ev"); (case r => walk_at "bin"))
  | (refine' ev_un ?a ?r; (case a => walk_at "ev"); (case r => exact un_negI))
  | (refine' ev_call (by assumption) (by assumption) (by decide) rfl ?a ?r; (case a => walk_at "ea"); (case r => walk_at "rel"))
  | (refine' ev_callB ?c rfl ?m ?b ?a; (case b => walk_at "boot"); (case a => walk_at "ea"); (case m => walk_at "blt"); (case c => walk_at "call"))
  | (refine' ev_isi ?e rfl ?m rfl ?n ?b ?t ?k ?d; (case b => walk_at "boot"); (case e => walk_at "ev"); (case m => walk_at "blt"); (case n => walk_at "blt"); (case t => walk_at "ty"); (case k => walk_at "kit"); (case d => decide))
  | (refine' ev_m1 PySem.F.slot_str_count PySem.F.type_str_count ?m ?t ?o ?e; (case o => walk_at "ev"); (case t => walk_at "ty"); (case e => walk_at "ev"); (case m => first | with_reducible exact mt_countWn | with_reducible exact mt_countWw | with_reducible exact mt_countWs | with_reducible exact mt_countWe))
  | (refine' ev_m1 PySem.F.slot_str_index PySem.F.type_str_index ?m ?t ?o ?e; (case o => walk_at "ev"); (case t => walk_at "ty"); (case e => walk_at "ev"); (case m => exact mt_indexW))
  | (refine' ev_m1 PySem.F.slot_str_strip PySem.F.type_str_strip ?m ?t ?o ?e; (case o => walk_at "ev"); (case t => walk_at "ty"); (case e => walk_at "ev"); (case m => exact mt_stripW (by walk_at "len")))
  | (refine' ev_ix ?a ?b ?r; (case a => walk_at "ev"); (case b => walk_at "ev"); (case r => walk_at "ix"))
  | (refine' EvL.d ?a; (case a => walk_at "el"))
  | exact ev_globS rfl (by assumption)
  | with_reducible exact ev_bl | with_reducible exact ev_non)
local macro_rules | `(tactic| walk_at "blt") => `(tactic| first
  | exact Blt.isinstance (by assumption) | exact Blt.int (by assumption) | exact Blt.bool (by assumption) | exact Blt.str (by assumption) | exact Blt.list (by assumption) | exact Blt.tuple (by assumption) | exact Blt.range (by assumption) | exact Blt.len (by assumption) | exact Blt.sum (by assumption) | exact Blt.abs (by assumption) | exact Blt.min (by assumption) | exact Blt.all (by assumption) | exact Blt.any (by assumption) | exact Blt.sorted (by assumption) | exact Blt.set (by assumption) | exact Blt.enumerate (by assumption) | exact Blt.zip (by assumption) | exact Blt.reversed (by assumption))
local macro_rules | `(tactic| walk_at "call") => `(tactic| first | exact ev_lenW (by walk_at "len") | exact call_lenL | exact call_lenT | exact call_absI | exact call_minI rfl | exact call_sumI rfl)
local macro_rules | `(tactic| walk_at "et") => `(tactic| (refine' EvT.is ?a ?b; (case a => walk_at "et0"); (case b => rfl)))
local macro_rules | `(tactic| walk_at "evg") => `(tactic| (refine' Ev.is ?a ?b; (case a => walk_at "ev"); (case b => rfl)))
local macro_rules | `(tactic| walk_at "et0") => `(tactic| first
  | (refine' et_not ?a; (case a => walk_at "et0"))
  | (refine' et_cmp ?a ?b ?r ?m; (case a => walk_at "ev"); (case b => walk_at "ev"); (case r => walk_at "cmp"); (case m => walk_at "mark"))
  | (refine' et_val ?a ?h; (case a => walk_at "ev"); (case h => (intro _; rfl))))
local macro_rules | `(tactic| walk_at "boot") => `(tactic| first | with_reducible exact b_int | with_reducible exact b_bool | with_reducible exact b_str | with_reducible exact b_list | with_reducible exact b_tuple | with_reducible exact b_range | with_reducible exact b_set | with_reducible exact b_enumerate | with_reducible exact b_zip | with_reducible exact b_reversed | with_reducible exact b_isinstance | with_reducible exact b_len | with_reducible exact b_sum | with_reducible exact b_abs | with_reducible exact b_min | with_reducible exact b_all | with_reducible exact b_any | with_reducible exact b_sorted)
local macro_rules | `(tactic| walk_at "ix") => `(tactic| first | exact ix_lett)
local macro_rules | `(tactic| walk_at "kit") => `(tactic| first | with_reducible exact k_int_int | with_reducible exact k_int_bool | with_reducible exact k_int_str | with_reducible exact k_int_list | with_reducible exact k_int_tuple | with_reducible exact k_bool_int | with_reducible exact k_bool_bool | with_reducible exact k_bool_str | with_reducible exact k_bool_list | with_reducible exact k_bool_tuple | with_reducible exact k_str_int | with_reducible exact k_str_bool | with_reducible exact k_str_str | with_reducible exact k_str_list | with_reducible exact k_str_tuple | with_reducible exact k_list_int | with_reducible exact k_list_bool | with_reducible exact k_list_str | with_reducible exact k_list_list | with_reducible exact k_list_tuple | with_reducible exact k_tuple_int | with_reducible exact k_tuple_bool | with_reducible exact k_tuple_str | with_reducible exact k_tuple_list | with_reducible exact k_tuple_tuple | with_reducible exact k_NoneType_int | with_reducible exact k_NoneType_bool | with_reducible exact k_NoneType_str | with_reducible exact k_NoneType_list | with_reducible exact k_NoneType_tuple)
local macro_rules | `(tactic| walk_at "ty") => `(tactic| first | with_reducible exact ty_int | with_reducible exact ty_W | with_reducible exact ty_ptD | with_reducible exact ty_bool | with_reducible exact ty_str | with_reducible exact ty_list | with_reducible exact ty_tuple | with_reducible exact ty_none)
local macro_rules | `(tactic| walk_at "rel") => `(tactic| first | exact ⟨_, by walk_at "len", rfl, rfl⟩ | exact ⟨_, _, by walk_at "len", rfl, rfl⟩ | exact ⟨_, rfl, rfl⟩ | exact ⟨_, _, rfl, rfl⟩)
local macro_rules | `(tactic| walk_at "ix") => `(tactic| first | exact ix_lett | exact ix_nesw)
local macro_rules | `(tactic| walk_at "le") => `(tactic| repeat first | exact .nil | refine .keep rfl ?_ | refine .skip ?_)
/-! ### the tree of a script -/
def dirOf (c : Int) : Dr := match (c % 4).toNat with
  | 0 => .e
  | 1 => .n
  | 2 => .w
  | _ => .s
def backI (n : Nat) (c : Int) : Int := c / 4 % (if (3 : Int) < (n : Int) then 3 else (n : Int))
def pickP (ns : List Pt) (c : Int) : Pt := ns.getD (ns.length - 1 - (backI ns.length c).toNat) (0, 0)
theorem backI_rng {n : Nat} (h : 0 < n) (c : Int) : 0 ≤ backI n c ∧ backI n c < n := by
  unfold backI
  split
  · have h1 := Int.emod_nonneg (c / 4) (b := 3) (by decide)
    have h2 := Int.emod_lt_of_pos (c / 4) (b := 3) (by decide)
    omega
  · have h1 := Int.emod_nonneg (c / 4) (b := (n : Int)) (by omega)
    have h2 := Int.emod_lt_of_pos (c / 4) (b := (n : Int)) (by omega)
    omega
theorem atI_back {α : Type} (xs : List α) (k : Int) (h0 : 0 ≤ k) (h : k < xs.length) : atI xs (-1 - k) = xs[xs.length - 1 - k.toNat]? := by
  unfold atI
  have e : ixN xs.length (-1 - k) = some (xs.length - 1 - k.toNat) := by
    unfold ixN
    first
      | (rw [if_neg (by omega), if_pos (by omega)]; congr 1; omega)
      | (rw [if_pos (by omega)]; simp; omega)
      | (split <;> simp <;> omega)
  rw [e]
  rfl
theorem pickP_at {ns : List Pt} (h : ns ≠ []) (c : Int) : ns[ns.length - 1 - (backI ns.length c).toNat]? = some (pickP ns c) := by
  have hp : 0 < ns.length := List.length_pos_iff.mpr h
  have := backI_rng hp c
  unfold pickP
  rw [List.getD_eq_getElem?_getD, List.getElem?_eq_getElem (by omega)]
  rfl
theorem pickP_mem {ns : List Pt} (h : ns ≠ []) (c : Int) : pickP ns c ∈ ns := List.mem_of_getElem? (pickP_at h c)
def growS (s : List Pt × List Pt) (c : Int) : List Pt × List Pt :=
  if far 2 (pickP s.1 c) (dirOf c) ∈ s.2 then s else (s.1 ++ [far 2 (pickP s.1 c) (dirOf c)], s.2 ++ [far 2 (pickP s.1 c) (dirOf c), far 1 (pickP s.1 c) (dirOf c)])
def treeS (cs : List Int) : List Pt × List Pt := cs.foldl growS ([(0, 0)], [(0, 0)])
structure Grown (s : List Pt × List Pt) : Prop where
  tr : Tree s.2
  sub : ∀ q ∈ s.1, q ∈ s.2
  evn : ∀ q ∈ s.1, q.1 % 2 = 0 ∧ q.2 % 2 = 0
  ne : s.1 ≠ []
  ln : s.2.length + 1 = 2 * s.1.length
  rim : ∃ p v, Rim s.2 p v
theorem Grown.step {s : List Pt × List Pt} (G : Grown s) (c : Int) : Grown (growS s c) := by
  unfold growS
  split
  · exact G
  · rename_i hN
    have hm := pickP_mem G.ne c
    have he := G.evn _ hm
    generalize pickP s.1 c = X at *
    obtain ⟨x, y⟩ := X
    generalize dirOf c = r at *
    obtain ⟨p, v, R⟩ := G.rim
    have hX := G.sub _ hm
    obtain ⟨v', R'⟩ := R.grow G.tr he.1 he.2 hX r hN
    refine ⟨(G.tr.grow he.1 he.2 hX r hN).2, fun q hq => ?_, fun q hq => ?_, by simp, ?_, _, v', R'⟩
    · rcases List.mem_append.mp hq with h | h
      · exact mem2.mpr (.inl (G.sub q h))
      · rw [List.mem_singleton] at h
        exact mem2.mpr (.inr (.inl h))
    · rcases List.mem_append.mp hq with h | h
      · exact G.evn q h
      · rw [List.mem_singleton] at h
        subst h
        simp only at he
        cases r <;> simp [far, Dr.dx, Dr.dy] <;> omega
    · have := G.ln
      simp only [List.length_append, List.length_cons, List.length_nil]
      omega
theorem grown (cs : List Int) : Grown (treeS cs) := by
  unfold treeS
  have key : ∀ (cs : List Int) (s : List Pt × List Pt), Grown s → Grown (cs.foldl growS s) := by
    intro cs
    induction cs with
    | nil => intro s h; exact h
    | cons c cs ih => intro s h; exact ih _ (h.step c)
  exact key cs _ ⟨tree_one, by decide, by decide, by decide, rfl, _, _, rim_one⟩
theorem growS_len (s : List Pt × List Pt) (c : Int) : (growS s c).1.length ≤ s.1.length + 1 := by
  unfold growS
  split
  · omega
  · simp
theorem treeS_len (cs : List Int) : (treeS cs).1.length ≤ cs.length + 1 := by
  unfold treeS
  have key : ∀ (cs : List Int) (s : List Pt × List Pt), (cs.foldl growS s).1.length ≤ s.1.length + cs.length := by
    intro cs
    induction cs with
    | nil => intro s; exact Nat.le_refl _
    | cons c cs ih =>
      intro s
      have h1 := ih (growS s c)
      have h2 := growS_len s c
      rw [List.foldl_cons, List.length_cons]
      omega
  have := key cs ([(0, 0)], [(0, 0)])
  simp only [List.length_singleton] at this
  omega
theorem treeS_take (cs : List Int) (i : Nat) (h : i < cs.length) : treeS (cs.take (i + 1)) = growS (treeS (cs.take i)) (cs.getD i 0) := by
  unfold treeS
  rw [take_getD cs 0 i h, List.foldl_append]
  rfl
noncomputable def low (T : List Pt) : Pt := (srtP T).getD 0 (0, 0)
theorem low_at {T : List Pt} (h : T ≠ []) : (srtP T)[0]? = some (low T) := by
  have hp : 0 < (srtP T).length := by
    unfold srtP
    rw [(srtBy_perm ptD T).length_eq]
    exact List.length_pos_iff.mpr h
  unfold low
  rw [List.getD_eq_getElem?_getD, List.getElem?_eq_getElem hp]
  rfl
theorem low_mem {T : List Pt} (h : T ≠ []) : low T ∈ T := (srtBy_perm ptD T).mem_iff.mp (List.mem_of_getElem? (low_at h))
theorem low_le {T : List Pt} (h : T ≠ []) (nd : T.Nodup) {p : Pt} (hp : p ∈ T) : p = low T ∨ ltP2 (low T) p := by
  have h1 := low_at h
  have h2 := srtP_lt nd
  have h3 : p ∈ srtP T := (srtBy_perm ptD T).mem_iff.mpr hp
  cases hs : srtP T with
  | nil => rw [hs] at h1; cases h1
  | cons a r =>
    rw [hs] at h1 h2 h3
    have e : a = low T := by simpa using h1
    subst e
    rcases List.mem_cons.mp h3 with z | z
    · exact .inl z
    · exact .inr ((List.pairwise_cons.mp h2).1 p z)
noncomputable def startOf (T : List Pt) : Pt := ((low T).1, (low T).2 + 1)
theorem start_in {T : List Pt} (H : Tree T) (h : T ≠ []) : cellOf (startOf T) ∈ T := by
  have hm := low_mem h
  have hl := fun {p : Pt} => low_le (p := p) h H.nd
  unfold startOf
  generalize low T = q at *
  obtain ⟨a, b⟩ := q
  have h1 : a % 2 = 0 := by
    by_cases z : a % 2 = 1
    · rcases hl (H.cx _ hm z).1 with w | w
      · injection w with w _
        omega
      · unfold ltP2 at w
        simp only at w
        omega
    · omega
  have h2 : b % 2 = 0 := by
    by_cases z : b % 2 = 1
    · rcases hl (H.cy _ hm z).1 with w | w
      · injection w with _ w
        omega
      · unfold ltP2 at w
        simp only at w
        omega
    · omega
  refine Eq.mp (congrArg (· ∈ T) ?_) hm
  refine Prod.ext ?_ ?_ <;> simp only [cellOf] <;> omega
theorem Grown.start {s : List Pt × List Pt} (G : Grown s) : ∃ v, Rim s.2 (startOf s.2) v := by
  obtain ⟨p, v, R⟩ := G.rim
  have h : s.2 ≠ [] := by
    intro z
    have h1 := G.ln
    have h2 := List.length_pos_iff.mpr G.ne
    rw [z] at h1
    simp at h1
    omega
  exact R.rot ((R.co _).mpr (start_in G.tr h))
/-! ### ways, one from each place -/
def edgesOf (T : List Pt) (q : Pt) : List (Pt × Dr) :=
  (if (q.1, q.2 - 1) ∈ T then [] else [((q.1, q.2), Dr.e)]) ++ (if (q.1 + 1, q.2) ∈ T then [] else [((q.1 + 1, q.2), Dr.n)]) ++
    (if (q.1, q.2 + 1) ∈ T then [] else [((q.1 + 1, q.2 + 1), Dr.w)]) ++ (if (q.1 - 1, q.2) ∈ T then [] else [((q.1, q.2 + 1), Dr.s)])
theorem mem_edges (T : List Pt) (q : Pt) (e : Pt × Dr) : e ∈ edgesOf T q ↔ lft e.1 e.2 = q ∧ rgt e.1 e.2 ∉ T := by
  obtain ⟨⟨a, b⟩, d⟩ := e
  obtain ⟨x, y⟩ := q
  have key : ∀ (p q : Pt) (o : Dr) (c : Prop) [Decidable c], (p, d) ∈ (if c then [] else [(q, o)] : List (Pt × Dr)) ↔ ¬ c ∧ p = q ∧ d = o := fun p q o c _ => by
    split <;> simp_all
  unfold edgesOf
  rw [List.mem_append, List.mem_append, List.mem_append, key, key, key, key]
  simp only [Prod.mk.injEq]
  cases d <;> simp only [lft, rgt, reduceCtorEq, and_false, false_or, or_false, and_true, Prod.mk.injEq]
  · constructor
    · rintro ⟨h, h1, h2⟩
      subst h1 h2
      exact ⟨⟨by omega, rfl⟩, h⟩
    · rintro ⟨⟨h1, h2⟩, h⟩
      obtain rfl : a = x + 1 := by omega
      subst h2
      exact ⟨h, rfl, rfl⟩
  · constructor
    · rintro ⟨h, h1, h2⟩
      subst h1 h2
      refine ⟨⟨by omega, by omega⟩, ?_⟩
      rwa [show x + 1 - 1 = x by omega]
    · rintro ⟨⟨h1, h2⟩, h⟩
      obtain rfl : a = x + 1 := by omega
      obtain rfl : b = y + 1 := by omega
      rw [show x + 1 - 1 = x by omega] at h
      exact ⟨h, rfl, rfl⟩
  · constructor
    · rintro ⟨h, h1, h2⟩
      subst h1 h2
      refine ⟨⟨rfl, by omega⟩, ?_⟩
      rwa [show y + 1 - 1 = y by omega]
    · rintro ⟨⟨h1, h2⟩, h⟩
      obtain rfl : b = y + 1 := by omega
      subst h1
      rw [show y + 1 - 1 = y by omega] at h
      exact ⟨h, rfl, rfl⟩
  · constructor
    · rintro ⟨h, h1, h2⟩
      subst h1 h2
      exact ⟨⟨rfl, rfl⟩, h⟩
    · rintro ⟨⟨h1, h2⟩, h⟩
      subst h1 h2
      exact ⟨h, rfl, rfl⟩
def edgesN (T : List Pt) (n : Nat) : List (Pt × Dr) := (T.take n).flatMap (edgesOf T)
theorem edgesN_succ (T : List Pt) (n : Nat) (h : n < T.length) : edgesN T (n + 1) = edgesN T n ++ edgesOf T (T.getD n (0, 0)) := by
  unfold edgesN
  rw [take_getD T (0, 0) n h, List.flatMap_append]
  simp
theorem mem_edgesN (T : List Pt) (e : Pt × Dr) : e ∈ edgesN T T.length ↔ lft e.1 e.2 ∈ T ∧ rgt e.1 e.2 ∉ T := by
  unfold edgesN
  rw [List.take_length, List.mem_flatMap]
  constructor
  · rintro ⟨q, hq, h⟩
    rw [mem_edges] at h
    exact ⟨h.1 ▸ hq, h.2⟩
  · rintro ⟨h1, h2⟩
    exact ⟨_, h1, (mem_edges ..).mpr ⟨rfl, h2⟩⟩
theorem edgesOf_len (T : List Pt) (q : Pt) : (edgesOf T q).length ≤ 4 := by
  unfold edgesOf
  simp only [List.length_append]
  (repeat' split) <;> simp
theorem edgesN_len (T : List Pt) : ∀ n, n ≤ T.length → (edgesN T n).length ≤ 4 * n
  | 0, _ => by simp [edgesN]
  | n + 1, h => by
    rw [edgesN_succ T n (by omega), List.length_append]
    have h1 := edgesN_len T n (by omega)
    have h2 := edgesOf_len T (T.getD n (0, 0))
    omega
def wayD (e : Pt × Dr) : PyData := .tuple [.int (go e.1 e.2).1, .int (go e.1 e.2).2, L1 e.2]
def wayK (L : List (Pt × Dr)) : List (List Key × PyData) := L.foldl (fun D e => mput D (K2 e.1) (wayD e)) []
theorem wayK_snoc (L : List (Pt × Dr)) (e : Pt × Dr) : wayK (L ++ [e]) = mput (wayK L) (K2 e.1) (wayD e) := by
  unfold wayK
  rw [List.foldl_append]
  rfl
theorem mval_put (k q : List Key) (d : PyData) : ∀ (D : List (List Key × PyData)), mval (mput D k d) q = if q = k then some d else mval D q := by
  intro D
  unfold mput
  by_cases ha : (D.any fun kv => decide (kv.1 = k)) = true
  · rw [if_pos ha]
    induction D with
    | nil => cases ha
    | cons p D ih =>
      rw [List.map_cons]
      unfold mval at *
      by_cases hp : p.1 = k
      · rw [if_pos hp]
        by_cases hq : q = k
        · rw [if_pos hq, List.find?_cons_of_pos (by simp [hp, hq])]
          rfl
        · rw [if_neg hq, List.find?_cons_of_neg (by simp [hp]; exact fun z => hq z.symm), List.find?_cons_of_neg (by simp [hp]; exact fun z => hq z.symm)]
          by_cases hb : (D.any fun kv => decide (kv.1 = k)) = true
          · rw [ih hb, if_neg hq]
          · have : D.map (fun kv => if kv.1 = k then (kv.1, d) else kv) = D := by
              refine (List.map_congr_left fun x hx => ?_).trans (List.map_id D)
              rw [if_neg]
              · rfl
              · intro z
                exact hb (List.any_eq_true.mpr ⟨x, hx, decide_eq_true z⟩)
            rw [this]
      · rw [if_neg hp]
        have hb : (D.any fun kv => decide (kv.1 = k)) = true := by
          rw [List.any_cons, decide_eq_false hp, Bool.false_or] at ha
          exact ha
        by_cases hq : p.1 = q
        · have : ¬ q = k := fun z => hp (hq.trans z)
          rw [if_neg this, List.find?_cons_of_pos (by simp [hq]), List.find?_cons_of_pos (by simp [hq])]
        · rw [List.find?_cons_of_neg (by simpa using hq), List.find?_cons_of_neg (by simpa using hq), ih hb]
  · rw [if_neg ha]
    unfold mval
    rw [List.find?_append]
    by_cases hq : q = k
    · subst hq
      rw [if_pos rfl]
      have : D.find? (fun kv => decide (kv.1 = q)) = none := by
        rw [List.find?_eq_none]
        intro x hx z
        exact ha (List.any_eq_true.mpr ⟨x, hx, z⟩)
      rw [this]
      simp
    · rw [if_neg hq]
      cases D.find? (fun kv => decide (kv.1 = q)) with
      | some x => rfl
      | none =>
        simp
        exact fun z => hq z.symm
theorem wayK_at : ∀ (n : Nat) (L : List (Pt × Dr)), L.length = n → (∀ e ∈ L, ∀ e' ∈ L, e.1 = e'.1 → e = e') → ∀ e ∈ L, mval (wayK L) (K2 e.1) = some (wayD e) := by
  intro n
  induction n with
  | zero => intro L h _ e he; rw [List.eq_nil_of_length_eq_zero h] at he; cases he
  | succ n ih =>
    intro L h hu e he
    rcases List.eq_nil_or_concat L with rfl | ⟨M, x, rfl⟩
    · cases h
    · rw [List.concat_eq_append] at *
      rw [wayK_snoc, mval_put]
      by_cases z : K2 e.1 = K2 x.1
      · rw [if_pos z, hu e he x (by simp) (K2_inj.mp z)]
      · rw [if_neg z]
        rcases List.mem_append.mp he with w | w
        · exact ih M (by simpa using h) (fun a ha b hb => hu a (List.mem_append_left _ ha) b (List.mem_append_left _ hb)) e w
        · rw [List.mem_singleton] at w
          exact absurd (by rw [w]) z
theorem wayK_len (L : List (Pt × Dr)) : (wayK L).length ≤ L.length := by
  have key : ∀ (L : List (Pt × Dr)) (D : List (List Key × PyData)), (L.foldl (fun D e => mput D (K2 e.1) (wayD e)) D).length ≤ D.length + L.length := by
    intro L
    induction L with
    | nil => intro D; exact Nat.le_refl _
    | cons e L ih =>
      intro D
      have h1 := ih (mput D (K2 e.1) (wayD e))
      have h2 : (mput D (K2 e.1) (wayD e)).length ≤ D.length + 1 := by
        unfold mput
        split
        · rw [List.length_map]; omega
        · rw [List.length_append]; exact Nat.le_refl _
      rw [List.foldl_cons, List.length_cons]
      omega
  have := key L []
  rw [List.length_nil, Nat.zero_add] at this
  exact this
theorem sub_len {α : Type} [DecidableEq α] : ∀ {l m : List α}, l.Nodup → (∀ a ∈ l, a ∈ m) → l.length ≤ m.length
  | [], _, _, _ => Nat.zero_le _
  | a :: l, m, nd, h => by
    have ha := h a (List.mem_cons_self ..)
    have h1 := List.length_erase_of_mem ha
    have h2 := List.length_pos_of_mem ha
    have h3 := sub_len (m := m.erase a) (List.nodup_cons.mp nd).2 fun b hb => by
      rw [List.mem_erase_of_ne]
      · exact h b (List.mem_cons_of_mem _ hb)
      · rintro rfl
        exact (List.nodup_cons.mp nd).1 hb
    rw [List.length_cons]
    omega
theorem wayK_many {L : List (Pt × Dr)} (hu : ∀ e ∈ L, ∀ e' ∈ L, e.1 = e'.1 → e = e') {ps : List Pt} (nd : ps.Nodup) (h : ∀ p ∈ ps, ∃ d, (p, d) ∈ L) : ps.length ≤ (wayK L).length := by
  have h1 : (ps.map K2).Nodup := by
    unfold List.Nodup at *
    rw [List.pairwise_map]
    exact nd.imp fun hab z => hab (K2_inj.mp z)
  have h2 := sub_len (m := (wayK L).map (·.1)) h1 fun k hk => by
    obtain ⟨p, hp, rfl⟩ := List.mem_map.mp hk
    obtain ⟨d, hd⟩ := h p hp
    have := wayK_at _ L rfl hu _ hd
    unfold mval at this
    cases q : (wayK L).find? (fun kv => decide (kv.1 = K2 p)) with
    | none =>
      simp only at this
      rw [q] at this
      cases this
    | some x =>
      have e1 := List.find?_some q
      have e2 := List.mem_of_find?_eq_some q
      exact List.mem_map.mpr ⟨x, e2, of_decide_eq_true e1⟩
  rw [List.length_map, List.length_map] at h2
  exact h2
theorem stp_at : ∀ (v : Wk) (p : Pt) (k : Nat), k < v.length → (goAll p (v.take k), v.getD k .n) ∈ stp p v
  | d :: v, p, 0, _ => List.mem_cons_self ..
  | d :: v, p, k + 1, h => List.mem_cons_of_mem _ (stp_at v (go p d) k (by simpa using h))
theorem ini_at : ∀ (v : Wk) (p : Pt) (k : Nat), k < v.length → (ini p v)[k]? = some (goAll p (v.take k))
  | d :: v, p, 0, _ => rfl
  | d :: v, p, k + 1, h => ini_at v (go p d) k (by simpa using h)
theorem Rim.ways {T : List Pt} {s : Pt} {v : Wk} (H : Tree T) (R : Rim T s v) {k : Nat} (hk : k < v.length) : mval (wayK (edgesN T T.length)) (K2 (goAll s (v.take k))) = some (.tuple [.int (goAll s (v.take (k + 1))).1, .int (goAll s (v.take (k + 1))).2, L1 (v.getD k .n)]) := by
  have hu : ∀ e ∈ edgesN T T.length, ∀ e' ∈ edgesN T T.length, e.1 = e'.1 → e = e' := fun e he e' he' z => by
    rw [mem_edgesN] at he he'
    obtain ⟨p, d⟩ := e
    obtain ⟨p', d'⟩ := e'
    simp only at z
    subst z
    have w : d = d' := way_one H he.1 he.2 he'.1 he'.2
    rw [w]
  have hm := stp_at v s k hk
  have := wayK_at _ _ rfl hu _ ((mem_edgesN ..).mpr (R.ed _ hm))
  rw [this]
  unfold wayD
  have e : go (goAll s (v.take k)) (v.getD k .n) = goAll s (v.take (k + 1)) := by
    rw [take_getD v .n k hk, goAll_app]
    rfl
  rw [e]
theorem Rim.many {T : List Pt} {s : Pt} {v : Wk} (H : Tree T) (R : Rim T s v) : v.length ≤ (wayK (edgesN T T.length)).length := by
  have hu : ∀ e ∈ edgesN T T.length, ∀ e' ∈ edgesN T T.length, e.1 = e'.1 → e = e' := fun e he e' he' z => by
    rw [mem_edgesN] at he he'
    obtain ⟨p, d⟩ := e
    obtain ⟨p', d'⟩ := e'
    simp only at z
    subst z
    have w : d = d' := way_one H he.1 he.2 he'.1 he'.2
    rw [w]
  have := wayK_many hu R.nd fun p hp => by
    rw [← stp_ini] at hp
    obtain ⟨e, he, rfl⟩ := List.mem_map.mp hp
    exact ⟨e.2, (mem_edgesN ..).mpr (R.ed e he)⟩
  rwa [ini_len] at this
theorem Rim.away {T : List Pt} {s : Pt} {v : Wk} (R : Rim T s v) {k : Nat} (h0 : 0 < k) (hk : k < v.length) : goAll s (v.take k) ≠ s := fun z => by
  have h1 := ini_at v s k hk
  have h2 := ini_at v s 0 (by omega)
  rw [z] at h1
  have := (List.getElem?_inj (i := k) (j := 0) (by rw [ini_len]; omega) R.nd).mp (by rw [h1, h2]; rfl)
  omega
end Sw

namespace Sw
open PySem PySem.Spec PyProof.Rows L2
local macro_rules | `(tactic| walk_at "vis") => `(tactic| first | exact .inl rfl | exact .inr (.inl rfl) | exact .inr (.inr rfl))
local macro_rules | `(tactic| walk_at "loc") => `(tactic| first | exact .inl rfl | exact .inr rfl)
local macro_rules | `(tactic| walk_at "str") => `(tactic| first | with_reducible exact s_ | with_reducible exact s_n | with_reducible exact s_w | with_reducible exact s_s | with_reducible exact s_e | with_reducible exact s_ns | with_reducible exact s_nwse | with_reducible exact s_nesw)
local macro_rules | `(tactic| walk_at "len") => `(tactic| first | omega | (simp; done) | (simp; omega))
local macro_rules | `(tactic| walk_at "bin") => `(tactic| first | with_reducible exact bin_addI | with_reducible exact bin_subI | with_reducible exact bin_modI (by omega) | with_reducible exact bin_addW (by walk_at "len"))
local macro_rules | `(tactic| walk_at "cmp") => `(tactic| first | with_reducible exact cmp_eqI | with_reducible exact cmp_neI | with_reducible exact cmp_eqW | with_reducible exact cmp_neW | with_reducible exact cmp_eqLn | with_reducible exact cmp_eqLw | with_reducible exact cmp_eqLs | with_reducible exact cmp_eqLe | with_reducible exact cmp_neLn | with_reducible exact cmp_neLw | with_reducible exact cmp_neLs | with_reducible exact cmp_neLe | with_reducible exact cmp_eqW0 | with_reducible exact cmp_neW0 | with_reducible exact cmp_eqL | with_reducible exact cmp_neL | with_reducible exact cmp_eqS | with_reducible exact cmp_neS | with_reducible exact cmp_ltI | with_reducible exact cmp_leI | with_reducible exact cmp_gtI | with_reducible exact cmp_geI | with_reducible exact cmp_inL | with_reducible exact cmp_inS)
local macro_rules | `(tactic| walk_at "mark") => `(tactic| first | exact nomark _ | rfl)
local macro_rules | `(tactic| walk_at "ea") => `(tactic| first | with_reducible exact ea_nil | (refine' ea_cons ?e ?r; (case e => walk_at "ev"); (case r => walk_at "ea")))
local macro_rules | `(tactic| walk_at "el") => `(tactic| first
  | (refine' evl_call (by assumption) (by assumption) (by decide) rfl ?a ?r; (case a => walk_at "ea"); (case r => walk_at "rel"))
  | (refine' evl_lst ?a ?l; (case a => walk_at "ea"); (case l => simp)))
local macro_rules | `(tactic| walk_at "ev") => `(tactic| first
  | with_reducible exact ev_int
  | (refine' ev_nm rfl ?v rfl rfl; (case v => walk_at "vis"))
  | (refine' ev_strS ?h; (case h => walk_at "str"))
  | (refine' ev_tup ?a ?l; (case a => walk_at "ea"); (case l => simp))
  | (refine' ev_bin ?a ?b ?r; (case a => walk_at "ev"); (case b => walk_at "ev"); (case r => walk_at "bin"))
  | (refine' ev_un ?a ?r; (case a => walk_at "ev"); (case r => exact un_negI))
  | (refine' ev_call (by assumption) (by assumption) (by decide) rfl ?a ?r; (case a => walk_at "ea"); (case r => walk_at "rel"))
  | (refine' ev_callB ?c rfl ?m ?b ?a; (case b => walk_at "boot"); (case a => walk_at "ea"); (case m => walk_at "blt"); (case c => walk_at "call"))
  | (refine' ev_isi ?e rfl ?m rfl ?n ?b ?t ?k ?d; (case b => walk_at "boot"); (case e => walk_at "ev"); (case m => walk_at "blt"); (case n => walk_at "blt"); (case t => walk_at "ty"); (case k => walk_at "kit"); (case d => decide))
  | (refine' ev_m1 PySem.F.slot_str_count PySem.F.type_str_count ?m ?t ?o ?e; (case o => walk_at "ev"); (case t => walk_at "ty"); (case e => walk_at "ev"); (case m => first | with_reducible exact mt_countWn | with_reducible exact mt_countWw | with_reducible exact mt_countWs | with_reducible exact mt_countWe))
  | (refine' ev_m1 PySem.F.slot_str_index PySem.F.type_str_index ?m ?t ?o ?e; (case o => walk_at "ev"); (case t => walk_at "ty"); (case e => walk_at "ev"); (case m => exact mt_indexW))
  | (refine' ev_m1 PySem.F.slot_str_strip PySem.F.type_str_strip ?m ?t ?o ?e; (case o => walk_at "ev"); (case t => walk_at "ty"); (case e => walk_at "ev"); (case m => exact mt_stripW (by walk_at "len")))
  | (refine' ev_ix ?a ?b ?r; (case a => walk_at "ev"); (case b => walk_at "ev"); (case r => walk_at "ix"))
  | (refine' EvL.d ?a; (case a => walk_at "el"))
  | exact ev_globS rfl (by assumption)
  | with_reducible exact ev_bl | with_reducible exact ev_non)
local macro_rules | `(tactic| walk_at "blt") => `(tactic| first
  | exact Blt.isinstance (by assumption) | exact Blt.int (by assumption) | exact Blt.bool (by assumption) | exact Blt.str (by assumption) | exact Blt.list (by assumption) | exact Blt.tuple (by assumption) | exact Blt.range (by assumption) | exact Blt.len (by assumption) | exact Blt.sum (by assumption) | exact Blt.abs (by assumption) | exact Blt.min (by assumption) | exact Blt.all (by assumption) | exact Blt.any (by assumption) | exact Blt.sorted (by assumption) | exact Blt.set (by assumption) | exact Blt.enumerate (by assumption) | exact Blt.zip (by assumption) | exact Blt.reversed (by assumption))
local macro_rules | `(tactic| walk_at "call") => `(tactic| first | exact ev_lenW (by walk_at "len") | exact call_lenL | exact call_lenT | exact call_absI | exact call_minI rfl | exact call_sumI rfl)
local macro_rules | `(tactic| walk_at "et") => `(tactic| (refine' EvT.is ?a ?b; (case a => walk_at "et0"); (case b => rfl)))
local macro_rules | `(tactic| walk_at "evg") => `(tactic| (refine' Ev.is ?a ?b; (case a => walk_at "ev"); (case b => rfl)))
local macro_rules | `(tactic| walk_at "et0") => `(tactic| first
  | (refine' et_not ?a; (case a => walk_at "et0"))
  | (refine' et_cmp ?a ?b ?r ?m; (case a => walk_at "ev"); (case b => walk_at "ev"); (case r => walk_at "cmp"); (case m => walk_at "mark"))
  | (refine' et_val ?a ?h; (case a => walk_at "ev"); (case h => (intro _; rfl))))
local macro_rules | `(tactic| walk_at "boot") => `(tactic| first | with_reducible exact b_int | with_reducible exact b_bool | with_reducible exact b_str | with_reducible exact b_list | with_reducible exact b_tuple | with_reducible exact b_range | with_reducible exact b_set | with_reducible exact b_enumerate | with_reducible exact b_zip | with_reducible exact b_reversed | with_reducible exact b_isinstance | with_reducible exact b_len | with_reducible exact b_sum | with_reducible exact b_abs | with_reducible exact b_min | with_reducible exact b_all | with_reducible exact b_any | with_reducible exact b_sorted)
local macro_rules | `(tactic| walk_at "ix") => `(tactic| first | exact ix_lett)
local macro_rules | `(tactic| walk_at "kit") => `(tactic| first | with_reducible exact k_int_int | with_reducible exact k_int_bool | with_reducible exact k_int_str | with_reducible exact k_int_list | with_reducible exact k_int_tuple | with_reducible exact k_bool_int | with_reducible exact k_bool_bool | with_reducible exact k_bool_str | with_reducible exact k_bool_list | with_reducible exact k_bool_tuple | with_reducible exact k_str_int | with_reducible exact k_str_bool | with_reducible exact k_str_str | with_reducible exact k_str_list | with_reducible exact k_str_tuple | with_reducible exact k_list_int | with_reducible exact k_list_bool | with_reducible exact k_list_str | with_reducible exact k_list_list | with_reducible exact k_list_tuple | with_reducible exact k_tuple_int | with_reducible exact k_tuple_bool | with_reducible exact k_tuple_str | with_reducible exact k_tuple_list | with_reducible exact k_tuple_tuple | with_reducible exact k_NoneType_int | with_reducible exact k_NoneType_bool | with_reducible exact k_NoneType_str | with_reducible exact k_NoneType_list | with_reducible exact k_NoneType_tuple)
local macro_rules | `(tactic| walk_at "ty") => `(tactic| first | with_reducible exact ty_int | with_reducible exact ty_W | with_reducible exact ty_ptD | with_reducible exact ty_bool | with_reducible exact ty_str | with_reducible exact ty_list | with_reducible exact ty_tuple | with_reducible exact ty_none)
local macro_rules | `(tactic| walk_at "rel") => `(tactic| first | exact ⟨_, by walk_at "len", rfl, rfl⟩ | exact ⟨_, _, by walk_at "len", rfl, rfl⟩ | exact ⟨_, rfl, rfl⟩ | exact ⟨_, _, rfl, rfl⟩)
local macro_rules | `(tactic| walk_at "ix") => `(tactic| first | exact ix_lett | exact ix_nesw)
local macro_rules | `(tactic| walk_at "le") => `(tactic| repeat first | exact .nil | refine .keep rfl ?_ | refine .skip ?_)
/-! ### what is told of a loop around squares -/
def fourT (T : List Pt) (q : Pt) : Bool := decide ((q.1 - 1, q.2) ∈ T) && (decide ((q.1, q.2 - 1) ∈ T) && decide ((q.1 - 1, q.2 - 1) ∈ T))
structure Told (v : Wk) (T : List Pt) : Prop where
  lp : Loop v
  nd : T.Nodup
  wn : ∀ c y, wn (0, 0) v c y = if (c, y) ∈ T then 1 else 0
  tn : ((tws v).count 1 : Int) - ((tws v).count 3 : Int) = 4
section
variable {v : Wk} {T : List Pt}
theorem Told.isIn (h : Told v T) (q : Pt) : isIn v q ↔ q ∈ T := by
  unfold Sw.isIn
  rw [h.wn]
  show (if q ∈ T then (1 : Int) else 0) ≠ 0 ↔ q ∈ T
  split <;> simp_all
theorem mem_srt (l : List Pt) (q : Pt) : q ∈ srtP l ↔ q ∈ l := (srtBy_perm ptD l).mem_iff
theorem Told.sq (h : Told v T) : sqF v = (srtP T).map fun q => (q, 1) := by
  have hc := h.lp.cl
  have h1 : (sqF v).map (·.1) = srtP T := by
    refine lt_uniq ?_ (srtP_lt h.nd) fun q => ?_
    · rw [List.pairwise_map]
      exact sqF_lt hc
    · rw [sqF_keys hc, mem_srt]
      exact h.isIn q
  rw [← h1, List.map_map]
  refine ((List.map_congr_left fun e he => ?_).trans (List.map_id _)).symm
  have h2 := (sqF_mem hc e).mp he
  refine Prod.ext rfl ?_
  show 1 = e.2
  rw [h2.1, h.wn]
  rw [h.wn] at h2
  split
  · rfl
  · rename_i z
    rw [if_neg z] at h2
    exact absurd h2.1 h2.2
theorem Told.area (h : Told v T) : areaW (0, 0) v = (T.length : Int) := by
  rw [← sqF_sum h.lp.cl, h.sq, sum_ones]
  unfold srtP
  rw [(srtBy_perm ptD T).length_eq]
theorem Told.inner (h : Told v T) : inner v = srtP (T.filter (fourT T)) := by
  have hc := h.lp.cl
  refine lt_uniq (inner_lt hc) (srtP_lt (h.nd.filter _)) fun q => ?_
  rw [mem_inner hc, mem_srt, List.mem_filter]
  unfold In4 fourT
  rw [h.isIn, h.isIn, h.isIn, h.isIn]
  simp
end
def mvP (s q : Pt) : Pt := (q.1 - s.1, q.2 - s.2)
theorem sh_mv (s q : Pt) : shP s (mvP s q) = q := Prod.ext (by show q.1 - s.1 + s.1 = q.1; omega) (by show q.2 - s.2 + s.2 = q.2; omega)
theorem mv_sh (s q : Pt) : mvP s (shP s q) = q := Prod.ext (by show q.1 + s.1 - s.1 = q.1; omega) (by show q.2 + s.2 - s.2 = q.2; omega)
theorem mem_mv (T : List Pt) (s q : Pt) : q ∈ T.map (mvP s) ↔ shP s q ∈ T := by
  rw [List.mem_map]
  constructor
  · rintro ⟨p, hp, rfl⟩
    rwa [sh_mv]
  · intro h
    exact ⟨_, h, mv_sh s q⟩
theorem stp_sh (t : Pt) : ∀ (v : Wk) (p : Pt), stp (shP t p) v = (stp p v).map fun e => (shP t e.1, e.2)
  | [], p => rfl
  | d :: v, p => by
    show (shP t p, d) :: stp (go (shP t p) d) v = (shP t p, d) :: (stp (go p d) v).map _
    rw [go_sh, stp_sh t v]
theorem lft_sh (t p : Pt) (d : Dr) : lft (shP t p) d = shP t (lft p d) := by cases d <;> (refine Prod.ext ?_ ?_ <;> simp only [lft, shP] <;> omega)
theorem rgt_sh (t p : Pt) (d : Dr) : rgt (shP t p) d = shP t (rgt p d) := by cases d <;> (refine Prod.ext ?_ ?_ <;> simp only [rgt, shP] <;> omega)
theorem shP_zero (s : Pt) : shP s (0, 0) = s := Prod.ext (Int.zero_add _) (Int.zero_add _)
/-- each step has a square to its left, none to its right -/
def Edgy (T : List Pt) (v : Wk) : Prop := ∀ e ∈ stp (0, 0) v, lft e.1 e.2 ∈ T ∧ rgt e.1 e.2 ∉ T
theorem Rim.told {T : List Pt} {s : Pt} {v : Wk} (H : Tree T) (R : Rim T s v) (hl : v.length ≤ 700) (hT : T ≠ []) : Told v (T.map (mvP s)) ∧ Edgy (T.map (mvP s)) v := by
  have h1 := R.ln
  have h2 := List.length_pos_iff.mpr hT
  have hi := ini_sh s v (0, 0)
  have hg := goAll_sh s v (0, 0)
  have hs := stp_sh s v (0, 0)
  rw [shP_zero] at hi hg hs
  refine ⟨⟨loop_mk hl (by omega) ?_ ?_, ?_, fun c y => ?_, R.tn⟩, fun e he => ?_⟩
  · rw [R.cl] at hg
    have := congrArg (mvP s) hg
    rw [mv_sh] at this
    rw [← this]
    exact Prod.ext (Int.sub_self _) (Int.sub_self _)
  · have := R.nd
    rw [hi] at this
    unfold List.Nodup at *
    rw [List.pairwise_map] at this
    exact this.imp fun hab z => hab (congrArg _ z)
  · exact nodup_map (fun a b e => by rw [← sh_mv s a, e, sh_mv]) H.nd
  · have h3 := wn_sh s c y v (0, 0)
    rw [shP_zero, R.wn] at h3
    rw [← h3]
    have := mem_mv T s (c, y)
    by_cases z : (c + s.1, y + s.2) ∈ T
    · rw [if_pos z, if_pos (this.mpr z)]
    · rw [if_neg z, if_neg (fun w => z (this.mp w))]
  · have := R.ed (shP s e.1, e.2) (by rw [hs]; exact List.mem_map.mpr ⟨e, he, rfl⟩)
    simp only at this
    rw [lft_sh, rgt_sh] at this
    rw [mem_mv, mem_mv]
    exact this
/-! twice as great -/
def dbl (v : Wk) : Wk := v.flatMap fun d => [d, d]
def dbP (p : Pt) : Pt := (2 * p.1, 2 * p.2)
def quad1 (q : Pt) : List Pt := [(2 * q.1, 2 * q.2), (2 * q.1 + 1, 2 * q.2), (2 * q.1, 2 * q.2 + 1), (2 * q.1 + 1, 2 * q.2 + 1)]
def quad (T : List Pt) : List Pt := T.flatMap quad1
theorem dbl_len (v : Wk) : (dbl v).length = 2 * v.length := by
  induction v with
  | nil => rfl
  | cons d v ih =>
    show (d :: d :: dbl v).length = _
    rw [List.length_cons, List.length_cons, List.length_cons, ih]
    omega
theorem mem_quad1 (p q : Pt) : p ∈ quad1 q ↔ (p.1 / 2, p.2 / 2) = q := by
  obtain ⟨a, b⟩ := p
  obtain ⟨x, y⟩ := q
  simp [quad1]
  omega
theorem mem_quad (T : List Pt) (p : Pt) : p ∈ quad T ↔ (p.1 / 2, p.2 / 2) ∈ T := by
  unfold quad
  rw [List.mem_flatMap]
  constructor
  · rintro ⟨q, hq, h⟩
    rw [mem_quad1] at h
    exact h ▸ hq
  · intro h
    exact ⟨_, h, (mem_quad1 ..).mpr rfl⟩
theorem quad_nd : ∀ {T : List Pt}, T.Nodup → (quad T).Nodup
  | [], _ => List.nodup_nil
  | q :: T, h => by
    have h1 := List.nodup_cons.mp h
    show (quad1 q ++ quad T).Nodup
    refine List.nodup_append.mpr ⟨?_, quad_nd h1.2, fun a ha b hb e => ?_⟩
    · simp [quad1]
      omega
    · subst e
      rw [mem_quad1] at ha
      rw [mem_quad, ha] at hb
      exact h1.1 hb
theorem quad_len (T : List Pt) : (quad T).length = 4 * T.length := by
  induction T with
  | nil => rfl
  | cons q T ih =>
    show (quad1 q ++ quad T).length = _
    rw [List.length_append, ih, List.length_cons]
    show 4 + _ = _
    omega
theorem go_db (p : Pt) (d : Dr) : go (go (dbP p) d) d = dbP (go p d) := by
  refine Prod.ext ?_ ?_ <;> simp only [go, dbP] <;> omega
theorem goAll_db : ∀ (v : Wk) (p : Pt), goAll (dbP p) (dbl v) = dbP (goAll p v)
  | [], p => rfl
  | d :: v, p => by
    show goAll (go (go (dbP p) d) d) (dbl v) = dbP (goAll (go p d) v)
    rw [go_db]
    exact goAll_db v (go p d)
theorem ini_db (q : Pt) : ∀ (v : Wk) (p : Pt), q ∈ ini (dbP p) (dbl v) → ∃ e ∈ stp p v, q = dbP e.1 ∨ q = go (dbP e.1) e.2
  | [], p, h => by cases h
  | d :: v, p, h => by
    have e : ini (dbP p) (dbl (d :: v)) = dbP p :: go (dbP p) d :: ini (go (go (dbP p) d) d) (dbl v) := rfl
    rw [e, go_db] at h
    rcases List.mem_cons.mp h with h | h
    · exact ⟨(p, d), List.mem_cons_self .., .inl h⟩
    · rcases List.mem_cons.mp h with h | h
      · exact ⟨(p, d), List.mem_cons_self .., .inr h⟩
      · obtain ⟨e, he, h⟩ := ini_db q v (go p d) h
        exact ⟨e, List.mem_cons_of_mem _ he, h⟩
theorem ini_dbnd (T : List Pt) : ∀ (v : Wk) (p : Pt), (ini p v).Nodup → (∀ e ∈ stp p v, lft e.1 e.2 ∈ T ∧ rgt e.1 e.2 ∉ T) → (ini (dbP p) (dbl v)).Nodup
  | [], p, _, _ => List.nodup_nil
  | d :: v, p, nd, ed => by
    have e : ini (dbP p) (dbl (d :: v)) = dbP p :: go (dbP p) d :: ini (go (go (dbP p) d) d) (dbl v) := rfl
    have h1 := List.nodup_cons.mp nd
    have h2 := ini_dbnd T v (go p d) h1.2 fun e he => ed e (List.mem_cons_of_mem _ he)
    have h0 := ed (p, d) (List.mem_cons_self ..)
    have par : ∀ (a b : Pt) (d : Dr), dbP a ≠ go (dbP b) d := fun a b d z => by
      have z1 := congrArg Prod.fst z
      have z2 := congrArg Prod.snd z
      cases d <;> simp [dbP, go, Dr.dx, Dr.dy] at z1 z2 <;> omega
    rw [e, go_db]
    refine List.nodup_cons.mpr ⟨fun z => ?_, List.nodup_cons.mpr ⟨fun z => ?_, h2⟩⟩
    · rcases List.mem_cons.mp z with z | z
      · exact par _ _ _ z
      · obtain ⟨x, hx, z | z⟩ := ini_db _ v (go p d) z
        · have : p = x.1 := by
            have z1 := congrArg Prod.fst z
            have z2 := congrArg Prod.snd z
            simp only [dbP] at z1 z2
            exact Prod.ext (by omega) (by omega)
          have hm := stp_mem hx
          rw [← this] at hm
          exact h1.1 hm
        · exact par _ _ _ z
    · obtain ⟨x, hx, z | z⟩ := ini_db _ v (go p d) z
      · exact par _ _ _ z.symm
      · have hm := stp_mem hx
        have hxe := ed x (List.mem_cons_of_mem _ hx)
        obtain ⟨x1, x2⟩ := x
        have z1 := congrArg Prod.fst z
        have z2 := congrArg Prod.snd z
        have key : x1 = p ∨ lft x1 x2 = rgt p d := by
          obtain ⟨a, b⟩ := p
          obtain ⟨a', b'⟩ := x1
          cases d <;> cases x2 <;> simp [dbP, go, Dr.dx, Dr.dy, lft, rgt] at z1 z2 ⊢ <;> omega
        rcases key with rfl | w
        · exact h1.1 hm
        · rw [w] at hxe
          exact h0.2 hxe.1
theorem wn_db (c y : Int) : ∀ (v : Wk) (p : Pt), wn (dbP p) (dbl v) c y = wn p v (c / 2) (y / 2)
  | [], p => rfl
  | d :: v, p => by
    have e : dbl (d :: v) = d :: d :: dbl v := rfl
    rw [e, wn_cons, wn_cons, wn_cons, go_db, wn_db c y v (go p d), ← Int.add_assoc]
    congr 1
    cases d <;> simp only [wnS_e, wnS_n, wnS_w, wnS_s, dbP, go, Dr.dx, Dr.dy] <;> (repeat' split) <;> omega
theorem la_db : ∀ (v : Wk) (a : Dr), la a (dbl v) = la a v
  | [], _ => rfl
  | d :: v, _ => la_db v d
theorem twL_db (k : Int) (hk : k ≠ 0) : ∀ (v : Wk) (a : Dr), (twL a (dbl v)).count k = (twL a v).count k
  | [], _ => rfl
  | d :: v, a => by
    have e : twL a (dbl (d :: v)) = tw a d :: tw d d :: twL d (dbl v) := rfl
    have e2 : twL a (d :: v) = tw a d :: twL d v := rfl
    have e3 : tw d d = 0 := by cases d <;> rfl
    rw [e, e2, e3, List.count_cons, List.count_cons, List.count_cons, twL_db k hk v d, if_neg (by simpa using fun z : (0 : Int) = k => hk z.symm), Nat.add_zero]
theorem Told.dbl {v : Wk} {T : List Pt} (h : Told v T) (he : Edgy T v) (hl : 2 * v.length ≤ 700) : Told (dbl v) (quad T) := by
  have hne := h.lp.ne
  have h4 := h.lp.l4
  have e0 : dbP (0, 0) = (0, 0) := rfl
  refine ⟨loop_mk (by rw [dbl_len]; exact hl) (by rw [dbl_len]; omega) ?_ ?_, quad_nd h.nd, fun c y => ?_, ?_⟩
  · have := goAll_db v (0, 0)
    rw [e0, h.lp.cl] at this
    exact this
  · have := ini_dbnd T v (0, 0) h.lp.ini he
    rwa [e0] at this
  · have := wn_db c y v (0, 0)
    rw [e0, h.wn] at this
    rw [this]
    by_cases z : (c / 2, y / 2) ∈ T
    · rw [if_pos z, if_pos ((mem_quad ..).mpr z)]
    · rw [if_neg z, if_neg (fun w => z ((mem_quad ..).mp w))]
  · have hn2 : Sw.dbl v ≠ [] := fun z => by
      have := dbl_len v
      rw [z] at this
      simp at this
      omega
    have h1 := h.tn
    rw [tws_eq hne] at h1
    rw [tws_eq hn2, la_db, twL_db 1 (by decide), twL_db 3 (by decide)]
    exact h1
end Sw

namespace Sw
open PySem PySem.Spec PyProof.Rows L2
local macro_rules | `(tactic| walk_at "vis") => `(tactic| first | exact .inl rfl | exact .inr (.inl rfl) | exact .inr (.inr rfl))
local macro_rules | `(tactic| walk_at "loc") => `(tactic| first | exact .inl rfl | exact .inr rfl)
local macro_rules | `(tactic| walk_at "str") => `(tactic| first | with_reducible exact s_ | with_reducible exact s_n | with_reducible exact s_w | with_reducible exact s_s | with_reducible exact s_e | with_reducible exact s_ns | with_reducible exact s_nwse | with_reducible exact s_nesw)
local macro_rules | `(tactic| walk_at "len") => `(tactic| first | omega | (simp; done) | (simp; omega))
local macro_rules | `(tactic| walk_at "bin") => `(tactic| first | with_reducible exact bin_addI | with_reducible exact bin_subI | with_reducible exact bin_modI (by omega) | with_reducible exact bin_addW (by walk_at "len"))
local macro_rules | `(tactic| walk_at "cmp") => `(tactic| first | with_reducible exact cmp_eqI | with_reducible exact cmp_neI | with_reducible exact cmp_eqW | with_reducible exact cmp_neW | with_reducible exact cmp_eqLn | with_reducible exact cmp_eqLw | with_reducible exact cmp_eqLs | with_reducible exact cmp_eqLe | with_reducible exact cmp_neLn | with_reducible exact cmp_neLw | with_reducible exact cmp_neLs | with_reducible exact cmp_neLe | with_reducible exact cmp_eqW0 | with_reducible exact cmp_neW0 | with_reducible exact cmp_eqL | with_reducible exact cmp_neL | with_reducible exact cmp_eqS | with_reducible exact cmp_neS | with_reducible exact cmp_ltI | with_reducible exact cmp_leI | with_reducible exact cmp_gtI | with_reducible exact cmp_geI | with_reducible exact cmp_inL | with_reducible exact cmp_inS)
local macro_rules | `(tactic| walk_at "mark") => `(tactic| first | exact nomark _ | rfl)
local macro_rules | `(tactic| walk_at "ea") => `(tactic| first | with_reducible exact ea_nil | (refine' ea_cons ?e ?r; (case e => walk_at "ev"); (case r => walk_at "ea")))
local macro_rules | `(tactic| walk_at "el") => `(tactic| first
  | (refine' evl_call (by assumption) (by assumption) (by decide) rfl ?a ?r; (case a => walk_at "ea"); (case r => walk_at "rel"))
  | (refine' evl_lst ?a ?l; (case a => walk_at "ea"); (case l => simp)))
local macro_rules | `(tactic| walk_at "ev") => `(tactic| first
  | with_reducible exact ev_int
  | (refine' ev_nm rfl ?v rfl rfl; (case v => walk_at "vis"))
  | (refine' ev_strS ?h; (case h => walk_at "str"))
  | (refine' ev_tup ?a ?l; (case a => walk_at "ea"); (case l => simp))
  | (refine' ev_bin ?a ?b ?r; (case a => walk_at "ev"); (case b => walk_at "ev"); (case r => walk_at "bin"))
  | (refine' ev_un ?a ?r; (case a => walk_at "ev"); (case r => exact un_negI))
  | (refine' ev_call (by assumption) (by assumption) (by decide) rfl ?a ?r; (case a => walk_at "ea"); (case r => walk_at "rel"))
  | (refine' ev_callB ?c rfl ?m ?b ?a; (case b => walk_at "boot"); (case a => walk_at "ea"); (case m => walk_at "blt"); (case c => walk_at "call"))
  | (refine' ev_isi ?e rfl ?m rfl ?n ?b ?t ?k ?d; (case b => walk_at "boot"); (case e => walk_at "ev"); (case m => walk_at "blt"); (case n => walk_at "blt"); (case t => walk_at "ty"); (case k => walk_at "kit"); (case d => decide))
  | (refine' ev_m1 PySem.F.slot_str_count PySem.F.type_str_count ?m ?t ?o ?e; (case o => walk_at "ev"); (case t => walk_at "ty"); (case e => walk_at "ev"); (case m => first | with_reducible exact mt_countWn | with_reducible exact mt_countWw | with_reducible exact mt_countWs | with_reducible exact mt_countWe))
  | (refine' ev_m1 PySem.F.slot_str_index PySem.F.type_str_index ?m ?t ?o ?e; (case o => walk_at "ev"); (case t => walk_at "ty"); (case e => walk_at "ev"); (case m => exact mt_indexW))
  | (refine' ev_m1 PySem.F.slot_str_strip PySem.F.type_str_strip ?m ?t ?o ?e; (case o => walk_at "ev"); (case t => walk_at "ty"); (case e => walk_at "ev"); (case m => exact mt_stripW (by walk_at "len")))
  | (refine' ev_ix ?a ?b ?r; (case a => walk_at "ev"); (case b => walk_at "ev"); (case r => walk_at "ix"))
  | (refine' EvL.d ?a; (case a => walk_at "el"))
  | exact ev_globS rfl (by assumption)
  | with_reducible exact ev_bl | with_reducible exact ev_non)
local macro_rules | `(tactic| walk_at "blt") => `(tactic| first
  | exact Blt.isinstance (by assumption) | exact Blt.int (by assumption) | exact Blt.bool (by assumption) | exact Blt.str (by assumption) | exact Blt.list (by assumption) | exact Blt.tuple (by assumption) | exact Blt.range (by assumption) | exact Blt.len (by assumption) | exact Blt.sum (by assumption) | exact Blt.abs (by assumption) | exact Blt.min (by assumption) | exact Blt.all (by assumption) | exact Blt.any (by assumption) | exact Blt.sorted (by assumption) | exact Blt.set (by assumption) | exact Blt.enumerate (by assumption) | exact Blt.zip (by assumption) | exact Blt.reversed (by assumption))
local macro_rules | `(tactic| walk_at "call") => `(tactic| first | exact ev_lenW (by walk_at "len") | exact call_lenL | exact call_lenT | exact call_absI | exact call_minI rfl | exact call_sumI rfl)
local macro_rules | `(tactic| walk_at "et") => `(tactic| (refine' EvT.is ?a ?b; (case a => walk_at "et0"); (case b => rfl)))
local macro_rules | `(tactic| walk_at "evg") => `(tactic| (refine' Ev.is ?a ?b; (case a => walk_at "ev"); (case b => rfl)))
local macro_rules | `(tactic| walk_at "et0") => `(tactic| first
  | (refine' et_not ?a; (case a => walk_at "et0"))
  | (refine' et_cmp ?a ?b ?r ?m; (case a => walk_at "ev"); (case b => walk_at "ev"); (case r => walk_at "cmp"); (case m => walk_at "mark"))
  | (refine' et_val ?a ?h; (case a => walk_at "ev"); (case h => (intro _; rfl))))
local macro_rules | `(tactic| walk_at "boot") => `(tactic| first | with_reducible exact b_int | with_reducible exact b_bool | with_reducible exact b_str | with_reducible exact b_list | with_reducible exact b_tuple | with_reducible exact b_range | with_reducible exact b_set | with_reducible exact b_enumerate | with_reducible exact b_zip | with_reducible exact b_reversed | with_reducible exact b_isinstance | with_reducible exact b_len | with_reducible exact b_sum | with_reducible exact b_abs | with_reducible exact b_min | with_reducible exact b_all | with_reducible exact b_any | with_reducible exact b_sorted)
local macro_rules | `(tactic| walk_at "ix") => `(tactic| first | exact ix_lett)
local macro_rules | `(tactic| walk_at "kit") => `(tactic| first | with_reducible exact k_int_int | with_reducible exact k_int_bool | with_reducible exact k_int_str | with_reducible exact k_int_list | with_reducible exact k_int_tuple | with_reducible exact k_bool_int | with_reducible exact k_bool_bool | with_reducible exact k_bool_str | with_reducible exact k_bool_list | with_reducible exact k_bool_tuple | with_reducible exact k_str_int | with_reducible exact k_str_bool | with_reducible exact k_str_str | with_reducible exact k_str_list | with_reducible exact k_str_tuple | with_reducible exact k_list_int | with_reducible exact k_list_bool | with_reducible exact k_list_str | with_reducible exact k_list_list | with_reducible exact k_list_tuple | with_reducible exact k_tuple_int | with_reducible exact k_tuple_bool | with_reducible exact k_tuple_str | with_reducible exact k_tuple_list | with_reducible exact k_tuple_tuple | with_reducible exact k_NoneType_int | with_reducible exact k_NoneType_bool | with_reducible exact k_NoneType_str | with_reducible exact k_NoneType_list | with_reducible exact k_NoneType_tuple)
local macro_rules | `(tactic| walk_at "ty") => `(tactic| first | with_reducible exact ty_int | with_reducible exact ty_W | with_reducible exact ty_ptD | with_reducible exact ty_bool | with_reducible exact ty_str | with_reducible exact ty_list | with_reducible exact ty_tuple | with_reducible exact ty_none)
local macro_rules | `(tactic| walk_at "rel") => `(tactic| first | exact ⟨_, by walk_at "len", rfl, rfl⟩ | exact ⟨_, _, by walk_at "len", rfl, rfl⟩ | exact ⟨_, rfl, rfl⟩ | exact ⟨_, _, rfl, rfl⟩)
local macro_rules | `(tactic| walk_at "ix") => `(tactic| first | exact ix_lett | exact ix_nesw)
local macro_rules | `(tactic| walk_at "le") => `(tactic| repeat first | exact .nil | refine .keep rfl ?_ | refine .skip ?_)
/-! ### a dict of places, each True -/
def encT (ps : List Pt) : List (List Key × PyData) := ps.map fun p => (K2 p, .bool true)
theorem mval_T (ps : List Pt) (q : Pt) : (mval (encT ps) (K2 q)).isSome = decide (q ∈ ps) := by
  unfold mval encT
  rw [Option.isSome_map]
  induction ps with
  | nil => simp
  | cons p r ih =>
    rw [List.map_cons]
    by_cases h : p = q
    · subst h
      rw [List.find?_cons_of_pos (by simp)]
      simp
    · rw [List.find?_cons_of_neg (by simpa [K2_inj] using h), ih]
      have : (q ∈ p :: r) = (q ∈ r) := by
        rw [List.mem_cons]
        exact propext ⟨fun z => z.resolve_left fun y => h y.symm, .inr⟩
      simp only [this]
theorem mput_T (ps : List Pt) (q : Pt) (h : q ∉ ps) : mput (encT ps) (K2 q) (.bool true) = encT (ps ++ [q]) := by
  unfold mput encT
  rw [if_neg]
  · simp
  · intro z
    obtain ⟨x, hx, e⟩ := List.any_eq_true.mp z
    obtain ⟨p, hp, rfl⟩ := List.mem_map.mp hx
    have := of_decide_eq_true e
    rw [K2_inj] at this
    exact h (this ▸ hp)
theorem vfz_T (ps : List Pt) : vfz (encT ps) = true := vfz_of.mpr fun p hp => by
  obtain ⟨q, _, rfl⟩ := List.mem_map.mp hp
  rfl
theorem encT_len (ps : List Pt) : (encT ps).length = ps.length := List.length_map ..
theorem keysT (ps : List Pt) : ((encT ps).map fun p => kD p.1) = ps.map ptD := by
  unfold encT
  rw [List.map_map]
  rfl
theorem keyT (ps : List Pt) (m : Nat) (h : m < (encT ps).length) : kD ((encT ps).getD m ([], .none)).1 = .tuple [.int (ps.getD m (0, 0)).1, .int (ps.getD m (0, 0)).2] ∧ fz (.int (ps.getD m (0, 0)).1) = true ∧ fz (.int (ps.getD m (0, 0)).2) = true := by
  rw [encT_len] at h
  refine ⟨?_, rfl, rfl⟩
  unfold encT
  rw [List.getD_eq_getElem?_getD, List.getElem?_map, List.getD_eq_getElem?_getD, List.getElem?_eq_getElem h]
  rfl
/-! ### the law of branches: its helpers -/
theorem far1 (p : Pt) (d : Dr) : far 1 p d = go p d := by
  refine Prod.ext ?_ ?_ <;> simp only [far, go, Int.one_mul]
theorem dirs_at (c : Int) : atI [PyData.tuple [.int 1, .int 0], .tuple [.int 0, .int 1], .tuple [.int (-1), .int 0], .tuple [.int 0, .int (-1)]] (c % 4) = some (.tuple [.int (dirOf c).dx, .int (dirOf c).dy]) := by
  unfold dirOf
  rcases mod4 c with z | z | z | z <;> rw [z] <;> rfl
theorem nodes_at {ns : List Pt} (h : ns ≠ []) (c : Int) : atI (ns.map ptD) (-1 - c / 4 % (if (3 : Int) < ((ns.map ptD).length : Int) then 3 else ((ns.map ptD).length : Int))) = some (.tuple [.int (pickP ns c).1, .int (pickP ns c).2]) := by
  have hp : 0 < ns.length := List.length_pos_iff.mpr h
  have hb := backI_rng hp c
  rw [List.length_map]
  show atI (ns.map ptD) (-1 - backI ns.length c) = _
  rw [atI_back _ _ hb.1 (by rw [List.length_map]; exact hb.2), List.length_map, List.getElem?_map, pickP_at h c]
  rfl
def RTree : List PyData → List (List Key × PyData) → Prop := fun ds r => ∃ cs : List Int, cs.length ≤ 63 ∧ ds = [.list (cs.map PyData.int)] ∧ r = encT (treeS cs).2
def RRimS : List SV → PyData → Prop := fun ss r => ∃ (T : List Pt) (s : Pt) (v : Wk), Tree T ∧ Rim T s v ∧ T.length ≤ 127 ∧ ss = [.g (mFix (encT T)), .d (ptD s)] ∧ r = W v
def RInner : List SV → PyData → Prop := fun ss r => ∃ T : List Pt, T.length ≤ 1000 ∧ ss = [.g (mFix (encT T))] ∧ r = .list ((srtP (T.filter (fourT T))).map ptD)
theorem way_e (x y : Int) : wayD ((x, y), .e) = .tuple [.int (x + 1), .int y, L1 .e] := by simp [wayD, go, Dr.dx, Dr.dy]
theorem way_n (x y : Int) : wayD ((x + 1, y), .n) = .tuple [.int (x + 1), .int (y + 1), L1 .n] := by simp [wayD, go, Dr.dx, Dr.dy]
theorem way_w (x y : Int) : wayD ((x + 1, y + 1), .w) = .tuple [.int x, .int (y + 1), L1 .w] := by
  simp [wayD, go, Dr.dx, Dr.dy]
  omega
theorem way_s (x y : Int) : wayD ((x, y + 1), .s) = .tuple [.int x, .int y, L1 .s] := by
  simp [wayD, go, Dr.dx, Dr.dy]
  omega
theorem wayK_if (L : List (Pt × Dr)) (c : Prop) [Decidable c] (e : Pt × Dr) : wayK (L ++ (if c then [] else [e])) = if (!decide c) = true then mput (wayK L) (K2 e.1) (wayD e) else wayK L := by
  by_cases h : c
  · rw [if_pos h, List.append_nil, if_neg (by simp [h])]
  · rw [if_neg h, wayK_snoc, if_pos (by simp [h])]
theorem ptD_ne {p q : Pt} : (decide (p = q) = true ↔ PyData.tuple [.int p.1, .int p.2] = ptD q) := by
  rw [decide_eq_true_iff]
  constructor
  · rintro rfl
    rfl
  · intro h
    exact ptD_inj h
section
variable {P : Program} {w : World} {K : PySem.W.Frag} {mg : Str → Option Value} {base : Heap}
theorem ok__law_tree (F : Df K mg "_law_tree" s__law_tree ["_law_script"]) (hb : Blt mg) : Cd P w K mg base 1 "_law_tree" (spM K RTree) := by
  refine cdM F sc__law_tree (fun ds r ⟨_, _, e, _⟩ => by rw [e]; rfl) fun f cdv A outer s H E hr nd ds r D ⟨cs, hc, e1, e2⟩ hD => ?_
  subst e1 e2
  refine run_env (e' := [some (.d (.list (cs.map PyData.int))), none, none, none, none, none, none, none, none]) rfl ?_
  refine rs_L (ds := [ptD (0, 0)]) rfl nd (by walk_at "loc") (evl_lst (ea_cons (by walk_at "ev") ea_nil) (by simp)) rfl ?_
  refine run_setM1 (k := K2 (0, 0)) (d := .bool true) hr rfl nd (by walk_at "loc") (by walk_at "evg") (by walk_at "ev") rfl ?_
  have hI : ∀ {X : Cx} {H0 : Hp} {env : En} {tg it : Expr}, ItS X H0 env tg it (cs.map PyData.int).length (fun i => (cs.map PyData.int).getD i .none) → ItS X H0 env tg it cs.length (fun i => .int (cs.getD i 0)) := fun h => by
    rw [List.length_map] at h
    exact h.congr fun i hi => getD_ints cs i hi
  refine rs_for (n := cs.length) (item := fun i => .int (cs.getD i 0)) (fun i => [some (.d (.list (cs.map PyData.int))), some (.l ((treeS (cs.take i)).1.map ptD)), some (.m (encT (treeS (cs.take i)).2)), none, none, none, none, none, none]) rfl nd (by walk_at "loc") PassesOwn.never (hI (its_slot 0 rfl (by walk_at "vis") rfl)) (by walk_at "le") (fun i _ => rfl) (fun i Hl D' hi hs hn hrt => ?_) ?_
  · have e1 := treeS_take cs i hi
    have G := grown (cs.take i)
    have hl := treeS_len (cs.take i)
    rw [List.length_take] at hl
    generalize cs.getD i 0 = c at *
    have hgl := G.ln
    generalize treeS (cs.take i) = st at *
    obtain ⟨ns, T⟩ := st
    have hat := nodes_at G.ne c
    have hpm := pickP_mem G.ne c
    have hev := G.evn _ hpm
    have hX := G.sub _ hpm
    unfold growS at e1
    simp only at e1 hat hpm hev hX hl hgl
    generalize pickP ns c = X0 at *
    have hdi := dirs_at c
    generalize dirOf c = dd at *
    refine rs_un2 rfl rfl nd (by walk_at "loc") (by walk_at "loc") (a := .int X0.1) (b := .int X0.2) (ev_ix (by walk_at "ev") (ev_bin (ev_un ev_int un_negI) (ev_bin (ev_bin (by walk_at "ev") ev_int (bin_fdivI (by decide))) (ev_callB (call_minI rfl) rfl hb.min b_min (ea_cons (ev_callB (call_lenL (ds := ns.map ptD)) rfl hb.len b_len (ea_cons (by walk_at "ev") ea_nil)) (ea_cons ev_int ea_nil))) (bin_modI ?_)) bin_subI) (ix_L hat)) rfl ?_
    · have := List.length_pos_iff.mpr G.ne
      simp only at this
      rw [List.length_map]
      split <;> omega
    refine rs_un2 rfl rfl nd (by walk_at "loc") (by walk_at "loc") (a := .int dd.dx) (b := .int dd.dy) (ev_ix (EvL.d (evl_lst (ds := [PyData.tuple [.int 1, .int 0], .tuple [.int 0, .int 1], .tuple [.int (-1), .int 0], .tuple [.int 0, .int (-1)]]) (by walk_at "ea") (by simp))) (ev_bin (by walk_at "ev") ev_int (bin_modI (by decide))) (ix_L hdi)) rfl ?_
    refine rs_F (d := ptD (far 2 X0 dd)) rfl nd (by walk_at "loc") (Ev.is (ev_tup (ea_cons (ev_bin (by walk_at "ev") (ev_bin ev_int (by walk_at "ev") (bin_mulI (.inl ⟨by decide, by decide⟩))) bin_addI) (ea_cons (ev_bin (by walk_at "ev") (ev_bin ev_int (by walk_at "ev") (bin_mulI (.inl ⟨by decide, by decide⟩))) bin_addI) ea_nil)) (by simp)) rfl) rfl ?_
    refine run_if (z := !decide (far 2 X0 dd ∈ T)) (EvT.is (et_mnotin (k := K2 (far 2 X0 dd)) hr rfl (by walk_at "vis") rfl (by walk_at "evg")) (by rw [mval_T])) (fun z => ?_) (fun z => ?_)
    · have hN : far 2 X0 dd ∉ T := by simpa using z
      rw [if_neg hN] at e1
      have hg := G.tr.grow hev.1 hev.2 hX dd hN
      obtain ⟨x0, y0⟩ := X0
      have hM : far 1 (x0, y0) dd ∉ T ++ [far 2 (x0, y0) dd] := fun y => by
        rcases List.mem_append.mp y with y | y
        · exact hg.1 y
        · rw [List.mem_singleton] at y
          have := hg.2.nd
          rw [y] at this
          have := (List.nodup_append.mp this).2.1
          simp at this
      have e3 : T ++ [far 2 (x0, y0) dd, far 1 (x0, y0) dd] = (T ++ [far 2 (x0, y0) dd]) ++ [far 1 (x0, y0) dd] := by simp
      refine rs_app rfl (by walk_at "vis") rfl (d := ptD (far 2 (x0, y0) dd)) (by walk_at "evg") rfl (by rw [List.length_map]; show ns.length ≤ 1000000; omega) ?_
      refine run_mput (k := K2 (far 2 (x0, y0) dd)) (d := .bool true) hr rfl (by walk_at "vis") rfl (by walk_at "evg") (by walk_at "ev") rfl (by rw [encT_len]; show T.length ≤ 1000000; omega) ?_
      rw [mput_T _ _ hN]
      refine run_mput (k := K2 (go (x0, y0) dd)) (d := .bool true) hr rfl (by walk_at "vis") rfl (by walk_at "evg") (by walk_at "ev") rfl (by rw [encT_len, List.length_append, List.length_singleton]; omega) (run_nx (run_turn hn ?_))
      rw [← far1, mput_T _ _ hM, ← e3, e1, List.map_append]
      walk_at "le"
    · have hN : far 2 X0 dd ∈ T := by simpa using z
      rw [if_pos hN] at e1
      refine run_nx (run_turn hn ?_)
      rw [e1]
      walk_at "le"
  · rw [List.take_length]
    exact run_retM rfl (by walk_at "vis") rfl hD
theorem ok__law_rim (F : Df K mg "_law_rim" s__law_rim ["_law_tree_here", "_law_start"]) (hb : Blt mg) : Cd P w K mg base 1 "_law_rim" (spS K RRimS) := by
  refine cdS F sc__law_rim (fun ds r ⟨_, _, _, _, _, _, e, _⟩ => by rw [e]; rfl) fun f cdv A outer s H E hr nd ds r D ⟨T, p0, v, hT, R, hl, e1, e2⟩ hD => ?_
  subst e1 e2
  refine run_env (e' := [some (.g (mFix (encT T))), some (.d (ptD p0)), none, none, none, none, none]) rfl ?_
  refine rs_M rfl nd (by walk_at "loc") ?_
  refine run_forGT (kvs := encT T) (u := fun m => .int (T.getD m (0, 0)).1) (v := fun m => .int (T.getD m (0, 0)).2) (fun l m => [some (.k l (encT T)), some (.d (ptD p0)), some (.m (wayK (edgesN T m))), none, none, none, none]) rfl (by walk_at "vis") rfl (vfz_T T) rfl rfl rfl nd (by walk_at "loc") (by walk_at "loc") PassesOwn.never (fun l m => rfl) (keyT T) (fun l => by walk_at "le") (fun l m Hl D' hm hn => ?_) (fun l => rfl) (fun l => ?_)
  · rw [encT_len] at hm
    have e3 := edgesN_succ T m hm
    have hL := edgesN_len T m (by omega)
    generalize edgesN T m = L at *
    generalize T.getD m (0, 0) = q at *
    obtain ⟨x, y⟩ := q
    unfold edgesOf at e3
    simp only at e3
    rw [← List.append_assoc, ← List.append_assoc, ← List.append_assoc] at e3
    have k1 := wayK_if L ((x, y - 1) ∈ T) ((x, y), .e)
    have l1 := wayK_len L
    have hL1 : (L ++ (if (x, y - 1) ∈ T then [] else [((x, y), Dr.e)])).length ≤ 4 * m + 1 := by rw [List.length_append]; split <;> simp <;> omega
    generalize L ++ (if (x, y - 1) ∈ T then [] else [((x, y), Dr.e)]) = L1' at *
    have k2 := wayK_if L1' ((x + 1, y) ∈ T) ((x + 1, y), .n)
    have l2 := wayK_len L1'
    have hL2 : (L1' ++ (if (x + 1, y) ∈ T then [] else [((x + 1, y), Dr.n)])).length ≤ 4 * m + 2 := by rw [List.length_append]; split <;> simp <;> omega
    generalize L1' ++ (if (x + 1, y) ∈ T then [] else [((x + 1, y), Dr.n)]) = L2' at *
    have k3 := wayK_if L2' ((x, y + 1) ∈ T) ((x + 1, y + 1), .w)
    have l3 := wayK_len L2'
    have hL3 : (L2' ++ (if (x, y + 1) ∈ T then [] else [((x + 1, y + 1), Dr.w)])).length ≤ 4 * m + 3 := by rw [List.length_append]; split <;> simp <;> omega
    generalize L2' ++ (if (x, y + 1) ∈ T then [] else [((x + 1, y + 1), Dr.w)]) = L3' at *
    have k4 := wayK_if L3' ((x - 1, y) ∈ T) ((x, y + 1), .s)
    have l4 := wayK_len L3'
    rw [← e3] at k4
    rw [way_e] at k1
    rw [way_n] at k2
    rw [way_w] at k3
    rw [way_s] at k4
    refine run_ifput (!decide ((x, y - 1) ∈ T)) (k := K2 (x, y)) (EvT.is (et_knotin (l := l) (ky := K2 (x, y - 1)) hr rfl (by walk_at "vis") rfl (by walk_at "evg")) (by rw [mval_T])) hr rfl (by walk_at "vis") rfl (by walk_at "evg") (by walk_at "evg") rfl (by omega) k1 ?_
    refine run_ifput (!decide ((x + 1, y) ∈ T)) (k := K2 (x + 1, y)) (EvT.is (et_knotin (l := l) (ky := K2 (x + 1, y)) hr rfl (by walk_at "vis") rfl (by walk_at "evg")) (by rw [mval_T])) hr rfl (by walk_at "vis") rfl (by walk_at "evg") (by walk_at "evg") rfl (by omega) k2 ?_
    refine run_ifput (!decide ((x, y + 1) ∈ T)) (k := K2 (x + 1, y + 1)) (EvT.is (et_knotin (l := l) (ky := K2 (x, y + 1)) hr rfl (by walk_at "vis") rfl (by walk_at "evg")) (by rw [mval_T])) hr rfl (by walk_at "vis") rfl (by walk_at "evg") (by walk_at "evg") rfl (by omega) k3 ?_
    refine run_ifput (!decide ((x - 1, y) ∈ T)) (k := K2 (x, y + 1)) (EvT.is (et_knotin (l := l) (ky := K2 (x - 1, y)) hr rfl (by walk_at "vis") rfl (by walk_at "evg")) (by rw [mval_T])) hr rfl (by walk_at "vis") rfl (by walk_at "evg") (by walk_at "evg") rfl (by omega) k4 (run_turn hn ?_)
    walk_at "le"
  · rw [encT_len]
    have hw := fun {k : Nat} (hk : k < v.length) => R.ways hT hk
    have hmany := R.many hT
    have haway := fun {k : Nat} (h0 : 0 < k) (hk : k < v.length) => R.away h0 hk
    have hln := R.ln
    have hcl := R.cl
    generalize wayK (edgesN T T.length) = kvs at *
    refine rs_L (ds := []) rfl nd (by walk_at "loc") (evl_lst ea_nil) rfl ?_
    refine rs_un3 rfl rfl rfl nd (by walk_at "loc") (by walk_at "loc") (by walk_at "loc") (ev_mget (k := K2 p0) hr rfl (by walk_at "vis") rfl (by walk_at "evg") (hw (k := 0) (by omega))) rfl ?_
    refine rs_app rfl (by walk_at "vis") rfl (d := L1 (v.getD 0 .n)) (by walk_at "ev") rfl (by simp) ?_
    refine run_while (v.length - 1) (fun m => [some (.g (mFix (encT T))), some (.d (ptD p0)), some (.m kvs), some (.d (.int (goAll p0 (v.take (m + 1))).1)), some (.d (.int (goAll p0 (v.take (m + 1))).2)), some (.l ((v.take (m + 1)).map L1)), none]) PassesOwn.never ?_ (fun m hm => ?_) (fun m Hl D' hm hn => ?_) ?_
    · have e5 : v.take (0 + 1) = [v.getD 0 .n] := by
        rw [take_getD v .n 0 (by omega)]
        rfl
      rw [e5]
      walk_at "le"
    · refine EvT.is (et_w (ew_and (et_cmp (x := .tuple [.int (goAll p0 (v.take (m + 1))).1, .int (goAll p0 (v.take (m + 1))).2]) (by walk_at "ev") (by walk_at "ev") (cmp_neD hr rfl rfl ptD_ne) (nomark _)) fun _ => ew_and1 (et_cmp (ev_callB (call_lenL (ds := (v.take (m + 1)).map L1)) rfl hb.len b_len (ea_cons (by walk_at "ev") ea_nil)) (ev_lenM (kvs := kvs) rfl hb.len rfl (by walk_at "vis") rfl) cmp_leI (nomark _)))) ?_
      rw [List.length_map, List.length_take]
      by_cases z : m < v.length - 1
      · rw [decide_eq_false (haway (k := m + 1) (by omega) (by omega)), decide_eq_true z, decide_eq_true (by omega)]
        rfl
      · have : m + 1 = v.length := by omega
        rw [this, List.take_length, hcl, decide_eq_false z]
        simp
    · have e6 := hw (k := m + 1) (by omega)
      have e7 : (v.take (m + 1 + 1)).map L1 = (v.take (m + 1)).map L1 ++ [L1 (v.getD (m + 1) .n)] := by
        rw [take_getD v .n (m + 1) (by omega), List.map_append]
        rfl
      refine rs_un3 rfl rfl rfl nd (by walk_at "loc") (by walk_at "loc") (by walk_at "loc") (ev_mget (k := K2 (goAll p0 (v.take (m + 1)))) hr rfl (by walk_at "vis") rfl (by walk_at "evg") e6) rfl ?_
      refine rs_app rfl (by walk_at "vis") rfl (d := L1 (v.getD (m + 1) .n)) (by walk_at "ev") rfl (by rw [List.length_map, List.length_take]; omega) (run_turn hn ?_)
      rw [e7]
      walk_at "le"
    · have e8 : v.take (v.length - 1 + 1) = v := by
        rw [show v.length - 1 + 1 = v.length by omega, List.take_length]
      rw [e8]
      exact run_ret (ev_joinW (w := v) (by walk_at "ev") (by omega)) hD
theorem ok__law_inner (F : Df K mg "_law_inner" s__law_inner ["_law_tree_here"]) (hb : Blt mg) : Cd P w K mg base 1 "_law_inner" (spS K RInner) := by
  refine cdS F sc__law_inner (fun ds r ⟨_, _, e, _⟩ => by rw [e]; rfl) fun f cdv A outer s H E hr nd ds r D ⟨T, hl, e1, e2⟩ hD => ?_
  subst e1 e2
  refine run_env (e' := [some (.g (mFix (encT T))), none, none, none]) rfl ?_
  refine rs_L (ds := []) rfl nd (by walk_at "loc") (evl_lst ea_nil) rfl ?_
  refine run_forGT (kvs := encT T) (u := fun m => .int (T.getD m (0, 0)).1) (v := fun m => .int (T.getD m (0, 0)).2) (fun l m => [some (.k l (encT T)), some (.l (((T.take m).filter (fourT T)).map ptD)), none, none]) rfl (by walk_at "vis") rfl (vfz_T T) rfl rfl rfl nd (by walk_at "loc") (by walk_at "loc") PassesOwn.never (fun l m => rfl) (keyT T) (fun l => by walk_at "le") (fun l m Hl D' hm hn => ?_) (fun l => rfl) (fun l => ?_)
  · rw [encT_len] at hm
    have hst : (T.take (m + 1)).filter (fourT T) = (T.take m).filter (fourT T) ++ (if fourT T (T.getD m (0, 0)) = true then [T.getD m (0, 0)] else []) := by
      rw [take_getD T (0, 0) m hm, List.filter_append]
      congr 1
      rw [List.filter_cons]
      split <;> rfl
    have hfl : ((T.take m).filter (fourT T)).length ≤ T.length := by
      have := List.length_filter_le (fourT T) (T.take m)
      rw [List.length_take] at this
      omega
    generalize T.getD m (0, 0) = q at *
    refine run_if (z := fourT T q) (EvT.is (et_w (ew_and (et_kin (l := l) (ky := K2 (q.1 - 1, q.2)) hr rfl (by walk_at "vis") rfl (by walk_at "evg")) fun _ => ew_and (et_kin (l := l) (ky := K2 (q.1, q.2 - 1)) hr rfl (by walk_at "vis") rfl (by walk_at "evg")) fun _ => ew_and1 (et_kin (l := l) (ky := K2 (q.1 - 1, q.2 - 1)) hr rfl (by walk_at "vis") rfl (by walk_at "evg")))) (by rw [mval_T, mval_T, mval_T]; rfl)) (fun z => ?_) (fun z => run_nx (run_turn hn ?_))
    · rw [z, if_pos rfl] at hst
      refine rs_app rfl (by walk_at "vis") rfl (d := ptD q) (by walk_at "evg") rfl (by rw [List.length_map]; omega) (run_nx (run_turn hn ?_))
      rw [hst, List.map_append]
      walk_at "le"
    · rw [hst, z, if_neg (by decide), List.append_nil]
      walk_at "le"
  · rw [encT_len, List.take_length]
    have hfl : (T.filter (fourT T)).length ≤ T.length := List.length_filter_le ..
    refine run_ret (EvL.d (EvL.is (evl_callB (call_sortedL hr (noDs_map fun p => rfl) (alike_pts (T.filter (fourT T))) (sortable_pts _) (by rw [List.length_map]; omega) (fun d hd => ?_)) rfl hb.sorted b_sorted (ea_cons (by walk_at "ev") ea_nil)) (show srt ((T.filter (fourT T)).map ptD) = (srtP (T.filter (fourT T))).map ptD from srt_by ptD _))) hD
    obtain ⟨e, _, rfl⟩ := List.mem_map.mp hd
    simp [ptD, PyData.depth, PyData.depthAll]
end
end Sw

namespace Sw
open PySem PySem.Spec PyProof.Rows L2
local macro_rules | `(tactic| walk_at "vis") => `(tactic| first | exact .inl rfl | exact .inr (.inl rfl) | exact .inr (.inr rfl))
local macro_rules | `(tactic| walk_at "loc") => `(tactic| first | exact .inl rfl | exact .inr rfl)
local macro_rules | `(tactic| walk_at "str") => `(tactic| first | with_reducible exact s_ | with_reducible exact s_n | with_reducible exact s_w | with_reducible exact s_s | with_reducible exact s_e | with_reducible exact s_ns | with_reducible exact s_nwse | with_reducible exact s_nesw)
local macro_rules | `(tactic| walk_at "len") => `(tactic| first | omega | (simp; done) | (simp; omega))
local macro_rules | `(tactic| walk_at "bin") => `(tactic| first | with_reducible exact bin_addI | with_reducible exact bin_subI | with_reducible exact bin_modI (by omega) | with_reducible exact bin_addW (by walk_at "len"))
local macro_rules | `(tactic| walk_at "cmp") => `(tactic| first | with_reducible exact cmp_eqI | with_reducible exact cmp_neI | with_reducible exact cmp_eqW | with_reducible exact cmp_neW | with_reducible exact cmp_eqLn | with_reducible exact cmp_eqLw | with_reducible exact cmp_eqLs | with_reducible exact cmp_eqLe | with_reducible exact cmp_neLn | with_reducible exact cmp_neLw | with_reducible exact cmp_neLs | with_reducible exact cmp_neLe | with_reducible exact cmp_eqW0 | with_reducible exact cmp_neW0 | with_reducible exact cmp_eqL | with_reducible exact cmp_neL | with_reducible exact cmp_eqS | with_reducible exact cmp_neS | with_reducible exact cmp_ltI | with_reducible exact cmp_leI | with_reducible exact cmp_gtI | with_reducible exact cmp_geI | with_reducible exact cmp_inL | with_reducible exact cmp_inS)
local macro_rules | `(tactic| walk_at "mark") => `(tactic| first | exact nomark _ | rfl)
local macro_rules | `(tactic| walk_at "ea") => `(tactic| first | with_reducible exact ea_nil | (refine' ea_cons ?e ?r; (case e => walk_at "ev"); (case r => walk_at "ea")))
local macro_rules | `(tactic| walk_at "el") => `(tactic| first
  | (refine' evl_call (by assumption) (by assumption) (by decide) rfl ?a ?r; (case a => walk_at "ea"); (case r => walk_at "rel"))
  | (refine' evl_lst ?a ?l; (case a => walk_at "ea"); (case l => simp)))
local macro_rules | `(tactic| walk_at "ev") => `(tactic| first
  | with_reducible exact ev_int
  | (refine' ev_nm rfl ?v rfl rfl; (case v => walk_at "vis"))
  | (refine' ev_strS ?h; (case h => walk_at "str"))
  | (refine' ev_tup ?a ?l; (case a => walk_at "ea"); (case l => simp))
  | (refine' ev_bin ?a ?b ?r; (case a => walk_at "ev"); (case b => walk_at "ev"); (case r => walk_at "bin"))
  | (refine' ev_un ?a ?r; (case a => walk_at "ev"); (case r => exact un_negI))
  | (refine' ev_call (by assumption) (by assumption) (by decide) rfl ?a ?r; (case a => walk_at "ea"); (case r => walk_at "rel"))
  | (refine' ev_callB ?c rfl ?m ?b ?a; (case b => walk_at "boot"); (case a => walk_at "ea"); (case m => walk_at "blt"); (case c => walk_at "call"))
  | (refine' ev_isi ?e rfl ?m rfl ?n ?b ?t ?k ?d; (case b => walk_at "boot"); (case e => walk_at "ev"); (case m => walk_at "blt"); (case n => walk_at "blt"); (case t => walk_at "ty"); (case k => walk_at "kit"); (case d => decide))
  | (refine' ev_m1 PySem.F.slot_str_count PySem.F.type_str_count ?m ?t ?o ?e; (case o => walk_at "ev"); (case t => walk_at "ty"); (case e => walk_at "ev"); (case m => first | with_reducible exact mt_countWn | with_reducible exact mt_countWw | with_reducible exact mt_countWs | with_reducible exact mt_countWe))
  | (refine' ev_m1 PySem.F.slot_str_index PySem.F.type_str_index ?m ?t ?o ?e; (case o => walk_at "ev"); (case t => walk_at "ty"); (case e => walk_at "ev"); (case m => exact mt_indexW))
  | (refine' ev_m1 PySem.F.slot_str_strip PySem.F.type_str_strip ?m ?t ?o ?e; (case o => walk_at "ev"); (case t => walk_at "ty"); (case e => walk_at "ev"); (case m => exact mt_stripW (by walk_at "len")))
  | (refine' ev_ix ?a ?b ?r; (case a => walk_at "ev"); (case b => walk_at "ev"); (case r => walk_at "ix"))
  | (refine' EvL.d ?a; (case a => walk_at "el"))
  | exact ev_globS rfl (by assumption)
  | with_reducible exact ev_bl | with_reducible exact ev_non)
local macro_rules | `(tactic| walk_at "blt") => `(tactic| first
  | exact Blt.isinstance (by assumption) | exact Blt.int (by assumption) | exact Blt.bool (by assumption) | exact Blt.str (by assumption) | exact Blt.list (by assumption) | exact Blt.tuple (by assumption) | exact Blt.range (by assumption) | exact Blt.len (by assumption) | exact Blt.sum (by assumption) | exact Blt.abs (by assumption) | exact Blt.min (by assumption) | exact Blt.all (by assumption) | exact Blt.any (by assumption) | exact Blt.sorted (by assumption) | exact Blt.set (by assumption) | exact Blt.enumerate (by assumption) | exact Blt.zip (by assumption) | exact Blt.reversed (by assumption))
local macro_rules | `(tactic| walk_at "call") => `(tactic| first | exact ev_lenW (by walk_at "len") | exact call_lenL | exact call_lenT | exact call_absI | exact call_minI rfl | exact call_sumI rfl)
local macro_rules | `(tactic| walk_at "et") => `(tactic| (refine' EvT.is ?a ?b; (case a => walk_at "et0"); (case b => rfl)))
local macro_rules | `(tactic| walk_at "evg") => `(tactic| (refine' Ev.is ?a ?b; (case a => walk_at "ev"); (case b => rfl)))
local macro_rules | `(tactic| walk_at "et0") => `(tactic| first
  | (refine' et_not ?a; (case a => walk_at "et0"))
  | (refine' et_cmp ?a ?b ?r ?m; (case a => walk_at "ev"); (case b => walk_at "ev"); (case r => walk_at "cmp"); (case m => walk_at "mark"))
  | (refine' et_val ?a ?h; (case a => walk_at "ev"); (case h => (intro _; rfl))))
local macro_rules | `(tactic| walk_at "boot") => `(tactic| first | with_reducible exact b_int | with_reducible exact b_bool | with_reducible exact b_str | with_reducible exact b_list | with_reducible exact b_tuple | with_reducible exact b_range | with_reducible exact b_set | with_reducible exact b_enumerate | with_reducible exact b_zip | with_reducible exact b_reversed | with_reducible exact b_isinstance | with_reducible exact b_len | with_reducible exact b_sum | with_reducible exact b_abs | with_reducible exact b_min | with_reducible exact b_all | with_reducible exact b_any | with_reducible exact b_sorted)
local macro_rules | `(tactic| walk_at "ix") => `(tactic| first | exact ix_lett)
local macro_rules | `(tactic| walk_at "kit") => `(tactic| first | with_reducible exact k_int_int | with_reducible exact k_int_bool | with_reducible exact k_int_str | with_reducible exact k_int_list | with_reducible exact k_int_tuple | with_reducible exact k_bool_int | with_reducible exact k_bool_bool | with_reducible exact k_bool_str | with_reducible exact k_bool_list | with_reducible exact k_bool_tuple | with_reducible exact k_str_int | with_reducible exact k_str_bool | with_reducible exact k_str_str | with_reducible exact k_str_list | with_reducible exact k_str_tuple | with_reducible exact k_list_int | with_reducible exact k_list_bool | with_reducible exact k_list_str | with_reducible exact k_list_list | with_reducible exact k_list_tuple | with_reducible exact k_tuple_int | with_reducible exact k_tuple_bool | with_reducible exact k_tuple_str | with_reducible exact k_tuple_list | with_reducible exact k_tuple_tuple | with_reducible exact k_NoneType_int | with_reducible exact k_NoneType_bool | with_reducible exact k_NoneType_str | with_reducible exact k_NoneType_list | with_reducible exact k_NoneType_tuple)
local macro_rules | `(tactic| walk_at "ty") => `(tactic| first | with_reducible exact ty_int | with_reducible exact ty_W | with_reducible exact ty_ptD | with_reducible exact ty_bool | with_reducible exact ty_str | with_reducible exact ty_list | with_reducible exact ty_tuple | with_reducible exact ty_none)
local macro_rules | `(tactic| walk_at "rel") => `(tactic| first | exact ⟨_, by walk_at "len", rfl, rfl⟩ | exact ⟨_, _, by walk_at "len", rfl, rfl⟩ | exact ⟨_, rfl, rfl⟩ | exact ⟨_, _, rfl, rfl⟩)
local macro_rules | `(tactic| walk_at "ix") => `(tactic| first | exact ix_lett | exact ix_nesw)
local macro_rules | `(tactic| walk_at "le") => `(tactic| repeat first | exact .nil | refine .keep rfl ?_ | refine .skip ?_)
/-! ### classes and their bases -/
theorem kit_self {K : PySem.W.Frag} {C : Addr} : PySem.W.kitOne K (.ref C) (.ref C) = some true := by
  unfold PySem.W.kitOne
  rw [if_pos (beq_self_eq_true _)]
theorem kit_no {K : PySem.W.Frag} {C1 C2 : Addr} (h1 : PySem.W.subIn K (.ref C1) (.ref C2) = some false) (h2 : PySem.W.subIn K (.ref C1) (.ref C1) = some true) (h3 : PySem.W.isClsIn K C2 = true) (h4 : PySem.W.typeIn K (.ref C2) = some (.type "type")) : PySem.W.kitOne K (.ref C1) (.ref C2) = some false := by
  have hne : C1 ≠ C2 := by
    intro z
    subst z
    rw [h1] at h2
    cases h2
  have e2 : ((PySem.W.clsIn K C2).isSome && PySem.W.typeIn K (.ref C2) == some (.type "type")) = true := by
    have h3' : (PySem.W.clsIn K C2).isSome = true := h3
    rw [h3', h4] <;> rfl
  unfold PySem.W.kitOne
  rw [if_neg (fun z => hne (by
    have := beq_iff_eq.mp z
    injection this))]
  show (if ((PySem.W.clsIn K C2).isSome && PySem.W.typeIn K (.ref C2) == some (.type "type")) = true then PySem.W.subIn K (.ref C1) (.ref C2) else none) = some false
  rw [if_pos e2]
  exact h1
/-! ### the law of branches -/
local macro_rules | `(tactic| walk_at "bin") => `(tactic| first | exact bin_mulI (.inl ⟨by decide, by decide⟩) | with_reducible exact bin_addI | with_reducible exact bin_subI | with_reducible exact bin_modI (by omega) | with_reducible exact bin_addW (by walk_at "len"))
def RRight2 : List SV → PyData → Prop := fun ss r => ∃ (v : Wk) (T : List Pt), Told v T ∧ T.length ≤ 1000 ∧ ss = [.d (W v), .g (mFix (encT T))] ∧ r = .bool true
theorem quad_take (T : List Pt) (m : Nat) (h : m < T.length) : quad (T.take (m + 1)) = quad (T.take m) ++ quad1 (T.getD m (0, 0)) := by
  unfold quad
  rw [take_getD T (0, 0) m h, List.flatMap_append]
  simp
theorem nd_pre {l m : List Pt} {a : Pt} (h : (l ++ m).Nodup) (ha : a ∈ m) : a ∉ l := fun z => (List.nodup_append.mp h).2.2 a z a ha rfl
theorem dbl_cps (v : Wk) : (v.map fun d : Dr => [d.code, d.code]).flatten = cps (dbl v) := by
  induction v with
  | nil => rfl
  | cons d v ih =>
    show [d.code, d.code] ++ (v.map fun d : Dr => [d.code, d.code]).flatten = d.code :: d.code :: cps (dbl v)
    rw [ih]
    rfl
section
variable {P : Program} {w : World} {K : PySem.W.Frag} {mg : Str → Option Value} {base : Heap} {C1 C2 : Addr}
theorem ok__law_right (F : Df K mg "_law_right" s__law_right ["_law_loop", "_law_tree_here"]) (hb : Blt mg) (csq : Cd P w K mg base 5 "squares" (spL K RSquares)) (ca : Cd P w K mg base 4 "area" (spD K RAreaC)) (ct : Cd P w K mg base 6 "turns" (spD K RTurns)) (cw : Cd P w K mg base 6 "within" (spL K RWithin))
    (cme : Cd P w K mg base 4 "meets" (spF K (RMeets C1 C2))) (hT1 : Ty1 K C1) (hm : mg "Simple" = some (.ref C1)) (hk : PySem.W.kitOne K (.ref C1) (.ref C1) = some true) (ci : Cd P w K mg base 1 "_law_inner" (spS K RInner)) : Cd P w K mg base 7 "_law_right" (spS K RRight2) := by
  refine cdS F sc__law_right (fun ds r ⟨_, _, _, _, e, _⟩ => by rw [e]; rfl) fun f cdv A outer s H E hr nd ds r D ⟨v, T, hv, hl, e1, e2⟩ hD => ?_
  subst e1 e2
  refine run_env (e' := [some (.d (W v)), some (.g (mFix (encT T))), none, none, none, none, none]) rfl ?_
  have L := hv.lp
  have hc := L.cl
  have hLl := L.ln
  have hsl : (srtP T).length = T.length := (srtBy_perm ptD T).length_eq
  have hsq : (sqF v).map sqD = (List.range (srtP T).length).map fun i => sqD ((srtP T).getD i (0, 0), 1) := by
    rw [map_getD (srtP T) (0, 0) fun q => sqD (q, 1), hv.sq, List.map_map]
    rfl
  have har := hv.area
  have hin := hv.inner
  have htw := hv.tn
  have hplS : pl 9 (.list ((sqF v).map sqD)) = true := pls_map (n := 8) fun _ => rfl
  have hqlen : ((sqF v).map sqD).length = T.length := by rw [hsq, List.length_map, List.length_range, hsl]
  have hilen : (inner v).length ≤ T.length := by
    rw [hin]
    unfold srtP
    rw [(srtBy_perm ptD _).length_eq]
    exact List.length_filter_le ..
  have hI : ∀ {X : Cx} {env : En} {tg it : Expr}, ItE X env tg it ((srtP T).map ptD).length (fun i => ((srtP T).map ptD).getD i .none) → ItE X env tg it (srtP T).length (fun i => ptD ((srtP T).getD i (0, 0))) := fun h => by
    rw [List.length_map] at h
    exact h.congr fun i hi => by
      rw [List.getD_eq_getElem?_getD, List.getElem?_map, List.getD_eq_getElem?_getD, List.getElem?_eq_getElem hi]
      rfl
  have hso : srt ((encT T).map fun p => kD p.1) = (srtP T).map ptD := by
    rw [keysT]
    exact srt_by ptD _
  refine rs_for (n := 2) (item := fun i => .int (i : Int)) (fun _ => [some (.d (W v)), some (.g (mFix (encT T))), none, none, none, none, none]) rfl nd (by walk_at "loc") PassesOwn.never (its_range1 (n := 2) rfl hb.range ev_int (by decide) (by decide)) (by walk_at "le") (fun i _ => rfl) (fun i Hl D' hi hs hn hrt => ?_) ?_
  · refine rs_L (ds := (sqF v).map sqD) rfl nd (by walk_at "loc") (evl_call csq hr (by decide) rfl (ea_cons (by walk_at "ev") ea_nil) ⟨v, by omega, hc, rfl, rfl⟩) (fzs_map fun e => rfl) ?_
    refine run_ifF0 (et_w (ew_oF (et_neF (by walk_at "ev") (EvL.d (el_comp sc__law_right (n := (srtP T).length) (item := fun i => ptD ((srtP T).getD i (0, 0))) (fun i => sqD ((srtP T).getD i (0, 0), 1)) rfl nd (by decide +kernel) (hI (ite_list (EvL.d (EvL.is (evl_sortedG (kvs := encT T) hr rfl (by rw [keysT]; exact alike_pts _) (by rw [keysT]; exact sortable_pts _) rfl hb.sorted rfl (by walk_at "vis") rfl) hso)))) (fun _ _ _ _ _ => ⟨.inl rfl, .inr rfl⟩) (fun i _ => rfl) (by omega) (fun s' H' C cl fp i hi => by walk_at "evg"))) (by rw [hsq]) (neD hr hplS)) (ew_or1 (et_neF (ev_call ca hr (by decide) rfl (ea_cons (by walk_at "ev") ea_nil) ⟨v, by omega, hc, rfl, rfl⟩) (ev_lenG (kvs := encT T) rfl hb.len rfl (by walk_at "vis") rfl) (by rw [har, encT_len]) (neD hr rfl))))) ?_
    refine rs_app rfl (by walk_at "vis") rfl (d := sqD ((0, 0), 0)) (by walk_at "evg") rfl (by omega) ?_
    refine rs_L (ds := (inner v).map ptD) rfl nd (by walk_at "loc") (evl_call cw hr (by decide) rfl (ea_cons (by walk_at "ev") ea_nil) ⟨v, L, rfl, rfl⟩) (fzs_map fun p => rfl) ?_
    refine run_ifF0 (et_w (ew_oF (et_notV (by walk_at "ev")) (ew_or1 (et_neF (by walk_at "ev") (ev_callS ci hr (by decide) rfl (evs_cons (evv_g rfl (by walk_at "vis") rfl) evs_nil) rfl ⟨T, by omega, rfl, rfl⟩) (by rw [hin]) (neD hr (pl_pts _)))))) ?_
    refine rs_app rfl (by walk_at "vis") rfl (d := ptD (0, 0)) (by walk_at "evg") rfl (by rw [List.length_map]; omega) ?_
    exact run_turn hn (by walk_at "le")
  refine rs_un2 rfl rfl nd (by walk_at "loc") (by walk_at "loc") (a := .int ((tws v).count 1 : Nat)) (b := .int ((tws v).count 3 : Nat)) (ev_call ct hr (by decide) rfl (ea_cons (by walk_at "ev") ea_nil) ⟨v, L, rfl, rfl⟩) rfl ?_
  exact run_ret (ev_aT (ev_eqT (ev_bin (by walk_at "ev") (by walk_at "ev") bin_subI) ev_int (by rw [htw]) (eqD hr rfl)) (ev_one (ev_isiO (ev_callF cme hr (by decide) rfl (ea_cons (by walk_at "ev") ea_nil) ⟨v, by omega, rfl, .inl ⟨L.nd, rfl⟩⟩) hT1 rfl hb.isinstance rfl hm hk))) hD
set_option maxHeartbeats 40000000 in
theorem ok_law {f : Addr} {fd : FuncData} (F : Fun K "law" "law" s_law f fd) (hb : Blt mg) (lt : Cd P w K mg base 1 "_law_tree" (spM K RTree)) (lr : Cd P w K mg base 1 "_law_rim" (spS K RRimS)) (lg : Cd P w K mg base 7 "_law_right" (spS K RRight2)) :
    FnOk P w K mg base CX0 8 f fd ["_law_script"] (spD K RLaw) := by
  refine fnD1 F sc_law (fun ds r ⟨_, _, e, _⟩ => by rw [e]; rfl) fun f cdv A outer s H E hr nd ds r D ⟨ns, hns, e1, e2⟩ hD hN => ?_
  subst e1 e2
  refine run_env (e' := [some (.d (.list (ns.map PyData.int))), none, none, none, none, none, none, none, none, none, none, none]) rfl ?_
  refine run_setMD (kvs := encT (treeS ns).2) rfl nd (by walk_at "loc") (evm_call lt hr (by decide) rfl (ea_cons (by walk_at "ev") ea_nil) ⟨ns, hns, rfl, rfl⟩) rfl ?_
  have G := grown ns
  have hnl := treeS_len ns
  have hln := G.ln
  have hT := G.tr
  obtain ⟨v, R⟩ := G.start
  have hnp := List.length_pos_iff.mpr G.ne
  generalize (treeS ns).1 = nds at *
  generalize (treeS ns).2 = T at *
  have hne : T ≠ [] := by
    intro z
    rw [z] at hln
    simp at hln
    omega
  have hso : srt ((encT T).map fun p => kD p.1) = (srtP T).map ptD := by
    rw [keysT]
    exact srt_by ptD _
  have hlow : atI ((srtP T).map ptD) 0 = some (.tuple [.int (low T).1, .int (low T).2]) := atI_nat (j := 0) (by
    rw [List.getElem?_map, low_at hne]
    rfl)
  have hvl := R.ln
  obtain ⟨hto, hed⟩ := R.told hT (by omega) hne
  unfold startOf at R hto hed
  generalize low T = q0 at *
  refine rs_un2 rfl rfl nd (by walk_at "loc") (by walk_at "loc") (a := .int q0.1) (b := .int q0.2) (ev_ix (EvL.d (EvL.is (evl_sortedG (kvs := encT T) hr rfl (by rw [keysT]; exact alike_pts _) (by rw [keysT]; exact sortable_pts _) rfl hb.sorted rfl (by walk_at "vis") rfl) hso)) ev_int (ix_L hlow)) rfl ?_
  refine rs_F (d := ptD (q0.1, q0.2 + 1)) rfl nd (by walk_at "loc") (by walk_at "evg") rfl ?_
  generalize (q0.1, q0.2 + 1) = p0 at *
  refine rs_F (d := W v) rfl nd (by walk_at "loc") (ev_callS lr hr (by decide) rfl (evs_cons (evv_g rfl (by walk_at "vis") rfl) (evs_cons (Ev.v (by walk_at "ev")) evs_nil)) rfl ⟨T, p0, v, hT, R, by omega, rfl, rfl⟩) rfl ?_
  refine rs_M rfl nd (by walk_at "loc") ?_
  have hmnd := hto.nd
  have htl : (T.map (mvP p0)).length = T.length := List.length_map ..
  refine run_forGT (kvs := encT T) (u := fun m => .int (T.getD m (0, 0)).1) (v := fun m => .int (T.getD m (0, 0)).2) (fun l m => [some (.d (.list (ns.map PyData.int))), some (.k l (encT T)), none, none, some (.d (ptD p0)), some (.d (W v)), some (.m (encT ((T.take m).map (mvP p0)))), none, none, none, none, none]) rfl (by walk_at "vis") rfl (vfz_T T) rfl rfl rfl nd (by walk_at "loc") (by walk_at "loc") PassesOwn.never (fun l m => rfl) (keyT T) (fun l => by walk_at "le") (fun l m Hl D' hm hn => ?_) (fun l => rfl) (fun l => ?_)
  · rw [encT_len] at hm
    have e3 : (T.take (m + 1)).map (mvP p0) = (T.take m).map (mvP p0) ++ [mvP p0 (T.getD m (0, 0))] := by
      rw [take_getD T (0, 0) m hm, List.map_append]
      rfl
    have hno : mvP p0 (T.getD m (0, 0)) ∉ (T.take m).map (mvP p0) := by
      have h1 : ((T.take (m + 1)).map (mvP p0)).Nodup := by
        rw [List.map_take]
        exact hmnd.sublist (List.take_sublist ..)
      rw [e3] at h1
      exact nd_pre h1 (List.mem_singleton.mpr rfl)
    generalize T.getD m (0, 0) = q at *
    refine run_mput (k := K2 (mvP p0 q)) (d := .bool true) hr rfl (by walk_at "vis") rfl (Ev.is (ev_tup (ea_cons (ev_bin (by walk_at "ev") (ev_ix (by walk_at "ev") ev_int (ix_T (d := .int p0.1) rfl)) bin_subI) (ea_cons (ev_bin (by walk_at "ev") (ev_ix (by walk_at "ev") ev_int (ix_T (d := .int p0.2) rfl)) bin_subI) ea_nil)) (by simp)) rfl) (by walk_at "ev") rfl (by rw [encT_len, List.length_map, List.length_take]; omega) (run_turn hn ?_)
    rw [mput_T _ _ hno, e3]
    walk_at "le"
  rw [encT_len, List.take_length]
  generalize T.map (mvP p0) = Tm at *
  refine run_ifF0 (et_notV (ev_callS lg hr (by decide) rfl (evs_cons (Ev.v (by walk_at "ev")) (evs_cons (evv_m rfl (by walk_at "vis") rfl) evs_nil)) rfl ⟨v, Tm, hto, by omega, rfl, rfl⟩)) ?_
  refine run_if (z := decide ((20 : Int) < ((ns.map PyData.int).length : Int))) (et_cmp (ev_callB (call_lenL (ds := ns.map PyData.int)) rfl hb.len b_len (ea_cons (by walk_at "ev") ea_nil)) ev_int cmp_gtI (nomark _)) (fun z => run_ret (by walk_at "ev") hD) (fun z => run_nx ?_)
  have hns20 : ns.length ≤ 20 := by
    have := of_decide_eq_false z
    rw [List.length_map] at this
    omega
  refine rs_M rfl nd (by walk_at "loc") ?_
  refine run_forKT (kvs := encT Tm) (u := fun m => .int (Tm.getD m (0, 0)).1) (v := fun m => .int (Tm.getD m (0, 0)).2) (fun l m => [some (.d (.list (ns.map PyData.int))), none, none, none, none, some (.d (W v)), some (.k l (encT Tm)), none, none, some (.m (encT (quad (Tm.take m)))), none, none]) rfl (by walk_at "vis") rfl rfl rfl nd (by walk_at "loc") (by walk_at "loc") PassesOwn.never (fun l m => rfl) (keyT Tm) (fun l => by walk_at "le") (fun l m Hl D' hm hn => ?_) (fun l => rfl) (fun l => ?_)
  · rw [encT_len] at hm
    have e3 := quad_take Tm m hm
    have hq : (quad (Tm.take (m + 1))).Nodup := quad_nd (hmnd.sublist (List.take_sublist ..))
    have hql := quad_len (Tm.take m)
    rw [List.length_take] at hql
    generalize Tm.getD m (0, 0) = q at *
    rw [e3] at hq
    generalize quad (Tm.take m) = Q at *
    have hI : ∀ {X : Cx} {H0 : Hp} {env : En} {tg it : Expr}, ItS X H0 env tg it ((quad1 q).map ptD).length (fun i => ((quad1 q).map ptD).getD i .none) → ItS X H0 env tg it 4 (fun i => ptD ((quad1 q).getD i (0, 0))) := fun h => h.congr fun i hi => by
      have hi : i < (quad1 q).length := hi
      rw [List.getD_eq_getElem?_getD, List.getElem?_map, List.getD_eq_getElem?_getD, List.getElem?_eq_getElem hi]
      rfl
    refine rs_for (n := 4) (item := fun i => ptD ((quad1 q).getD i (0, 0))) (fun i => [some (.d (.list (ns.map PyData.int))), none, none, none, none, some (.d (W v)), some (.k l (encT Tm)), none, none, some (.m (encT (Q ++ (quad1 q).take i))), none, none]) rfl nd (by walk_at "loc") PassesOwn.never (hI (its_new (EvL.is (evl_lst (ds := [PyData.tuple [.int (2 * q.1), .int (2 * q.2)], PyData.tuple [.int (2 * q.1 + 1), .int (2 * q.2)], PyData.tuple [.int (2 * q.1), .int (2 * q.2 + 1)], PyData.tuple [.int (2 * q.1 + 1), .int (2 * q.2 + 1)]]) (by walk_at "ea") (by simp)) rfl) rfl)) ?_ (fun i _ => rfl) (fun i Hl2 D2 hi hs2 hn2 hrt2 => ?_) ?_
    · rw [List.take_zero, List.append_nil]
      walk_at "le"
    · have hi4 : i < (quad1 q).length := hi
      have e4 : Q ++ (quad1 q).take (i + 1) = (Q ++ (quad1 q).take i) ++ [(quad1 q).getD i (0, 0)] := by
        rw [take_getD (quad1 q) (0, 0) i hi4, List.append_assoc]
      have hno : (quad1 q).getD i (0, 0) ∉ Q ++ (quad1 q).take i := by
        have h1 : (Q ++ (quad1 q).take (i + 1)).Nodup := hq.sublist (List.Sublist.append (List.Sublist.refl _) (List.take_sublist ..))
        rw [e4] at h1
        exact nd_pre h1 (List.mem_singleton.mpr rfl)
      have hll : (Q ++ (quad1 q).take i).length ≤ 1000000 := by
        rw [List.length_append, List.length_take]
        omega
      generalize (quad1 q).getD i (0, 0) = p at *
      refine run_mput (k := K2 p) (d := .bool true) hr rfl (by walk_at "vis") rfl (by walk_at "evg") (by walk_at "ev") rfl (by rw [encT_len]; exact hll) (run_turn hn2 ?_)
      rw [mput_T _ _ hno, e4]
      walk_at "le"
    · refine run_turn hn ?_
      have e5 : (quad1 q).take 4 = quad1 q := rfl
      rw [e3, e5]
      walk_at "le"
  rw [encT_len, List.take_length]
  refine run_ret (ev_callS lg hr (by decide) rfl (evs_cons (Ev.v (d := W (dbl v)) (Ev.is (ev_join (ls := v.map fun d : Dr => [d.code, d.code]) (Ev.is (EvL.d (el_comp sc_law (n := v.length) (item := fun i => L1 (v.getD i .n)) (fun i => W [v.getD i .n, v.getD i .n]) rfl nd (by decide +kernel) (ite_W (by walk_at "ev")) (fun _ _ _ _ _ => ⟨.inl rfl, .inr rfl⟩) (fun i _ => rfl) (by omega) fun s' H' C cl fp i hi => Ev.is (ev_bin (by walk_at "ev") ev_int (bin_mulL (by decide) (by decide))) rfl)) ?_) ?_) ?_)) (evs_cons (evv_m rfl (by walk_at "vis") rfl) evs_nil)) rfl ⟨dbl v, quad Tm, hto.dbl hed (by omega), by rw [quad_len]; omega, rfl, rfl⟩) hD
  · rw [List.map_map]
    exact congrArg PyData.list (map_getD v .n fun d => W [d, d])
  · rw [dbl_cps, cps_len, dbl_len]
    omega
  · rw [dbl_cps]
    rfl
end
end Sw

namespace Sw
open PySem PySem.Spec PyProof.Rows L2
theorem all_mk {l : PySem.W.OpenLaw} {w : World} {K : PySem.W.Frag} {h : Heap} {mg : Str → Option Value} {fa : Addr} (X : K.In h) (G : h.Ns mainGlobals mg) (hfa : mg "law" = some (.ref fa)) {tL : Tok}
    {f0 : Addr} {od0 an0 : Option Addr} {sl0 : Array (Option Value)} {oc0 kV0 dc0 pm0 cd0 ct0 : Value}
    (a0 : PySem.W.nsIn K mainGlobals "asked_walk" = some (some (.ref f0))) (l0 : K.lookup f0 = some ⟨oc0, od0, .func (PySem.W.fnOf "asked_walk" "asked_walk" (defArgs s_asked_walk) (defBody s_asked_walk) (defScope s_asked_walk) .none kV0 dc0 pm0 an0 cd0 ct0), sl0⟩) (c0 : PySem.W.codeIn K cd0 "asked_walk" = true) (k0 : PySem.W.keepIn K (.ref f0) = true)
    {f1 : Addr} {od1 an1 : Option Addr} {sl1 : Array (Option Value)} {oc1 kV1 dc1 pm1 cd1 ct1 : Value}
    (a1 : PySem.W.nsIn K mainGlobals "stepped" = some (some (.ref f1))) (l1 : K.lookup f1 = some ⟨oc1, od1, .func (PySem.W.fnOf "stepped" "stepped" (defArgs s_stepped) (defBody s_stepped) (defScope s_stepped) .none kV1 dc1 pm1 an1 cd1 ct1), sl1⟩) (c1 : PySem.W.codeIn K cd1 "stepped" = true) (k1 : PySem.W.keepIn K (.ref f1) = true)
    {f2 : Addr} {od2 an2 : Option Addr} {sl2 : Array (Option Value)} {oc2 kV2 dc2 pm2 cd2 ct2 : Value}
    (a2 : PySem.W.nsIn K mainGlobals "walked" = some (some (.ref f2))) (l2 : K.lookup f2 = some ⟨oc2, od2, .func (PySem.W.fnOf "walked" "walked" (defArgs s_walked) (defBody s_walked) (defScope s_walked) .none kV2 dc2 pm2 an2 cd2 ct2), sl2⟩) (c2 : PySem.W.codeIn K cd2 "walked" = true) (k2 : PySem.W.keepIn K (.ref f2) = true)
    {f3 : Addr} {od3 an3 : Option Addr} {sl3 : Array (Option Value)} {oc3 kV3 dc3 pm3 cd3 ct3 : Value}
    (a3 : PySem.W.nsIn K mainGlobals "end" = some (some (.ref f3))) (l3 : K.lookup f3 = some ⟨oc3, od3, .func (PySem.W.fnOf "end" "end" (defArgs s_end) (defBody s_end) (defScope s_end) .none kV3 dc3 pm3 an3 cd3 ct3), sl3⟩) (c3 : PySem.W.codeIn K cd3 "end" = true) (k3 : PySem.W.keepIn K (.ref f3) = true)
    {f4 : Addr} {od4 an4 : Option Addr} {sl4 : Array (Option Value)} {oc4 kV4 dc4 pm4 cd4 ct4 : Value}
    (a4 : PySem.W.nsIn K mainGlobals "asked_closed" = some (some (.ref f4))) (l4 : K.lookup f4 = some ⟨oc4, od4, .func (PySem.W.fnOf "asked_closed" "asked_closed" (defArgs s_asked_closed) (defBody s_asked_closed) (defScope s_asked_closed) .none kV4 dc4 pm4 an4 cd4 ct4), sl4⟩) (c4 : PySem.W.codeIn K cd4 "asked_closed" = true) (k4 : PySem.W.keepIn K (.ref f4) = true)
    {f5 : Addr} {od5 an5 : Option Addr} {sl5 : Array (Option Value)} {oc5 kV5 dc5 pm5 cd5 ct5 : Value}
    (a5 : PySem.W.nsIn K mainGlobals "area_of" = some (some (.ref f5))) (l5 : K.lookup f5 = some ⟨oc5, od5, .func (PySem.W.fnOf "area_of" "area_of" (defArgs s_area_of) (defBody s_area_of) (defScope s_area_of) .none kV5 dc5 pm5 an5 cd5 ct5), sl5⟩) (c5 : PySem.W.codeIn K cd5 "area_of" = true) (k5 : PySem.W.keepIn K (.ref f5) = true)
    {f6 : Addr} {od6 an6 : Option Addr} {sl6 : Array (Option Value)} {oc6 kV6 dc6 pm6 cd6 ct6 : Value}
    (a6 : PySem.W.nsIn K mainGlobals "area" = some (some (.ref f6))) (l6 : K.lookup f6 = some ⟨oc6, od6, .func (PySem.W.fnOf "area" "area" (defArgs s_area) (defBody s_area) (defScope s_area) .none kV6 dc6 pm6 an6 cd6 ct6), sl6⟩) (c6 : PySem.W.codeIn K cd6 "area" = true) (k6 : PySem.W.keepIn K (.ref f6) = true)
    {f7 : Addr} {od7 an7 : Option Addr} {sl7 : Array (Option Value)} {oc7 kV7 dc7 pm7 cd7 ct7 : Value}
    (a7 : PySem.W.nsIn K mainGlobals "crossings" = some (some (.ref f7))) (l7 : K.lookup f7 = some ⟨oc7, od7, .func (PySem.W.fnOf "crossings" "crossings" (defArgs s_crossings) (defBody s_crossings) (defScope s_crossings) .none kV7 dc7 pm7 an7 cd7 ct7), sl7⟩) (c7 : PySem.W.codeIn K cd7 "crossings" = true) (k7 : PySem.W.keepIn K (.ref f7) = true)
    {f8 : Addr} {od8 an8 : Option Addr} {sl8 : Array (Option Value)} {oc8 kV8 dc8 pm8 cd8 ct8 : Value}
    (a8 : PySem.W.nsIn K mainGlobals "squares_of" = some (some (.ref f8))) (l8 : K.lookup f8 = some ⟨oc8, od8, .func (PySem.W.fnOf "squares_of" "squares_of" (defArgs s_squares_of) (defBody s_squares_of) (defScope s_squares_of) .none kV8 dc8 pm8 an8 cd8 ct8), sl8⟩) (c8 : PySem.W.codeIn K cd8 "squares_of" = true) (k8 : PySem.W.keepIn K (.ref f8) = true)
    {f9 : Addr} {od9 an9 : Option Addr} {sl9 : Array (Option Value)} {oc9 kV9 dc9 pm9 cd9 ct9 : Value}
    (a9 : PySem.W.nsIn K mainGlobals "squares" = some (some (.ref f9))) (l9 : K.lookup f9 = some ⟨oc9, od9, .func (PySem.W.fnOf "squares" "squares" (defArgs s_squares) (defBody s_squares) (defScope s_squares) .none kV9 dc9 pm9 an9 cd9 ct9), sl9⟩) (c9 : PySem.W.codeIn K cd9 "squares" = true) (k9 : PySem.W.keepIn K (.ref f9) = true)
    {f10 : Addr} {od10 an10 : Option Addr} {sl10 : Array (Option Value)} {oc10 kV10 dc10 pm10 cd10 ct10 : Value}
    (a10 : PySem.W.nsIn K mainGlobals "own_places" = some (some (.ref f10))) (l10 : K.lookup f10 = some ⟨oc10, od10, .func (PySem.W.fnOf "own_places" "own_places" (defArgs s_own_places) (defBody s_own_places) (defScope s_own_places) .none kV10 dc10 pm10 an10 cd10 ct10), sl10⟩) (c10 : PySem.W.codeIn K cd10 "own_places" = true) (k10 : PySem.W.keepIn K (.ref f10) = true)
    {f11 : Addr} {od11 an11 : Option Addr} {sl11 : Array (Option Value)} {oc11 kV11 dc11 pm11 cd11 ct11 : Value}
    (a11 : PySem.W.nsIn K mainGlobals "meets" = some (some (.ref f11))) (l11 : K.lookup f11 = some ⟨oc11, od11, .func (PySem.W.fnOf "meets" "meets" (defArgs s_meets) (defBody s_meets) (defScope s_meets) .none kV11 dc11 pm11 an11 cd11 ct11), sl11⟩) (c11 : PySem.W.codeIn K cd11 "meets" = true) (k11 : PySem.W.keepIn K (.ref f11) = true)
    {f12 : Addr} {od12 an12 : Option Addr} {sl12 : Array (Option Value)} {oc12 kV12 dc12 pm12 cd12 ct12 : Value}
    (a12 : PySem.W.nsIn K mainGlobals "asked_loop" = some (some (.ref f12))) (l12 : K.lookup f12 = some ⟨oc12, od12, .func (PySem.W.fnOf "asked_loop" "asked_loop" (defArgs s_asked_loop) (defBody s_asked_loop) (defScope s_asked_loop) .none kV12 dc12 pm12 an12 cd12 ct12), sl12⟩) (c12 : PySem.W.codeIn K cd12 "asked_loop" = true) (k12 : PySem.W.keepIn K (.ref f12) = true)
    {f13 : Addr} {od13 an13 : Option Addr} {sl13 : Array (Option Value)} {oc13 kV13 dc13 pm13 cd13 ct13 : Value}
    (a13 : PySem.W.nsIn K mainGlobals "turns" = some (some (.ref f13))) (l13 : K.lookup f13 = some ⟨oc13, od13, .func (PySem.W.fnOf "turns" "turns" (defArgs s_turns) (defBody s_turns) (defScope s_turns) .none kV13 dc13 pm13 an13 cd13 ct13), sl13⟩) (c13 : PySem.W.codeIn K cd13 "turns" = true) (k13 : PySem.W.keepIn K (.ref f13) = true)
    {f14 : Addr} {od14 an14 : Option Addr} {sl14 : Array (Option Value)} {oc14 kV14 dc14 pm14 cd14 ct14 : Value}
    (a14 : PySem.W.nsIn K mainGlobals "within" = some (some (.ref f14))) (l14 : K.lookup f14 = some ⟨oc14, od14, .func (PySem.W.fnOf "within" "within" (defArgs s_within) (defBody s_within) (defScope s_within) .none kV14 dc14 pm14 an14 cd14 ct14), sl14⟩) (c14 : PySem.W.codeIn K cd14 "within" = true) (k14 : PySem.W.keepIn K (.ref f14) = true)
    {f15 : Addr} {od15 an15 : Option Addr} {sl15 : Array (Option Value)} {oc15 kV15 dc15 pm15 cd15 ct15 : Value}
    (a15 : PySem.W.nsIn K mainGlobals "_law_tree" = some (some (.ref f15))) (l15 : K.lookup f15 = some ⟨oc15, od15, .func (PySem.W.fnOf "_law_tree" "_law_tree" (defArgs s__law_tree) (defBody s__law_tree) (defScope s__law_tree) .none kV15 dc15 pm15 an15 cd15 ct15), sl15⟩) (c15 : PySem.W.codeIn K cd15 "_law_tree" = true) (k15 : PySem.W.keepIn K (.ref f15) = true)
    {f16 : Addr} {od16 an16 : Option Addr} {sl16 : Array (Option Value)} {oc16 kV16 dc16 pm16 cd16 ct16 : Value}
    (a16 : PySem.W.nsIn K mainGlobals "_law_rim" = some (some (.ref f16))) (l16 : K.lookup f16 = some ⟨oc16, od16, .func (PySem.W.fnOf "_law_rim" "_law_rim" (defArgs s__law_rim) (defBody s__law_rim) (defScope s__law_rim) .none kV16 dc16 pm16 an16 cd16 ct16), sl16⟩) (c16 : PySem.W.codeIn K cd16 "_law_rim" = true) (k16 : PySem.W.keepIn K (.ref f16) = true)
    {f17 : Addr} {od17 an17 : Option Addr} {sl17 : Array (Option Value)} {oc17 kV17 dc17 pm17 cd17 ct17 : Value}
    (a17 : PySem.W.nsIn K mainGlobals "_law_inner" = some (some (.ref f17))) (l17 : K.lookup f17 = some ⟨oc17, od17, .func (PySem.W.fnOf "_law_inner" "_law_inner" (defArgs s__law_inner) (defBody s__law_inner) (defScope s__law_inner) .none kV17 dc17 pm17 an17 cd17 ct17), sl17⟩) (c17 : PySem.W.codeIn K cd17 "_law_inner" = true) (k17 : PySem.W.keepIn K (.ref f17) = true)
    {f18 : Addr} {od18 an18 : Option Addr} {sl18 : Array (Option Value)} {oc18 kV18 dc18 pm18 cd18 ct18 : Value}
    (a18 : PySem.W.nsIn K mainGlobals "_law_right" = some (some (.ref f18))) (l18 : K.lookup f18 = some ⟨oc18, od18, .func (PySem.W.fnOf "_law_right" "_law_right" (defArgs s__law_right) (defBody s__law_right) (defScope s__law_right) .none kV18 dc18 pm18 an18 cd18 ct18), sl18⟩) (c18 : PySem.W.codeIn K cd18 "_law_right" = true) (k18 : PySem.W.keepIn K (.ref f18) = true)
    {f19 : Addr} {od19 an19 : Option Addr} {sl19 : Array (Option Value)} {oc19 kV19 dc19 pm19 cd19 ct19 : Value}
    (a19 : PySem.W.nsIn K mainGlobals "law" = some (some (.ref f19))) (l19 : K.lookup f19 = some ⟨oc19, od19, .func (PySem.W.fnOf "law" "law" (defArgs s_law) (defBody s_law) (defScope s_law) .none kV19 dc19 pm19 an19 cd19 ct19), sl19⟩) (c19 : PySem.W.codeIn K cd19 "law" = true) (k19 : PySem.W.keepIn K (.ref f19) = true)
    (z_isinstance : PySem.W.nsIn K mainGlobals "isinstance" = some none)
    (z_int : PySem.W.nsIn K mainGlobals "int" = some none)
    (z_bool : PySem.W.nsIn K mainGlobals "bool" = some none)
    (z_str : PySem.W.nsIn K mainGlobals "str" = some none)
    (z_list : PySem.W.nsIn K mainGlobals "list" = some none)
    (z_tuple : PySem.W.nsIn K mainGlobals "tuple" = some none)
    (z_range : PySem.W.nsIn K mainGlobals "range" = some none)
    (z_len : PySem.W.nsIn K mainGlobals "len" = some none)
    (z_sum : PySem.W.nsIn K mainGlobals "sum" = some none)
    (z_abs : PySem.W.nsIn K mainGlobals "abs" = some none)
    (z_min : PySem.W.nsIn K mainGlobals "min" = some none)
    (z_all : PySem.W.nsIn K mainGlobals "all" = some none)
    (z_any : PySem.W.nsIn K mainGlobals "any" = some none)
    (z_sorted : PySem.W.nsIn K mainGlobals "sorted" = some none)
    (z_set : PySem.W.nsIn K mainGlobals "set" = some none)
    (z_enumerate : PySem.W.nsIn K mainGlobals "enumerate" = some none)
    (z_zip : PySem.W.nsIn K mainGlobals "zip" = some none)
    (z_reversed : PySem.W.nsIn K mainGlobals "reversed" = some none)
    (aL : PySem.W.nsIn K mainGlobals "LETTERS" = some (some (.str (SX.S [110, 119, 115, 101]) tL)))
    {C1 y1g : Addr} {y1od y1an : Option Addr} {y1sl : Array (Option Value)} {y1oc y1kV y1dc y1pm y1cd y1ct : Value}
    (y1A : PySem.W.nsIn K mainGlobals "Simple" = some (some (.ref C1))) (y1a : PySem.W.findIn K (.ref C1) "__init__" = some (some (.ref y1g))) (y1i : PySem.W.isFn K (.ref y1g) = true) (y1l : K.lookup y1g = some ⟨y1oc, y1od, .func (PySem.W.fnOf "__init__" "Simple.__init__" (defArgs s_Simple___init__) (defBody s_Simple___init__) (defScope s_Simple___init__) .none y1kV y1dc y1pm y1an y1cd y1ct), y1sl⟩) (y1c : PySem.W.codeIn K y1cd "Simple.__init__" = true) (y1k : PySem.W.keepIn K (.ref y1g) = true) (y1pg : PySem.W.plainGet K C1 Str.empty = true) (y1hd : PySem.W.hasDictIn K C1 = true) (y1po : PySem.W.plainOver K C1 = true) (y1sa : PySem.W.findIn K (.ref C1) "__setattr__" = some (some (.builtin "object.__setattr__"))) (y1mk : PySem.W.makesIn K C1 = true) (y1kc : PySem.W.keepIn K (.ref C1) = true) (y1ha : PySem.W.findIn K (.ref C1) "__class__" = some (some (.builtin "object.__class__"))) (y1hn : PySem.W.specialIn K (.builtin "object.__class__") "__get__" = some (some (.builtin "getset_descriptor.__get__"))) (y1tk : PySem.W.takesIn K (.builtin "object.__class__") = some true) (y1mr : PySem.W.mroIn K C1 (.type "object") = some true) (y1n0 : PySem.W.findIn K (.ref C1) "places" = some none)
    {C2 y2g : Addr} {y2od y2an : Option Addr} {y2sl : Array (Option Value)} {y2oc y2kV y2dc y2pm y2cd y2ct : Value}
    (y2A : PySem.W.nsIn K mainGlobals "Twice" = some (some (.ref C2))) (y2a : PySem.W.findIn K (.ref C2) "__init__" = some (some (.ref y2g))) (y2i : PySem.W.isFn K (.ref y2g) = true) (y2l : K.lookup y2g = some ⟨y2oc, y2od, .func (PySem.W.fnOf "__init__" "Twice.__init__" (defArgs s_Twice___init__) (defBody s_Twice___init__) (defScope s_Twice___init__) .none y2kV y2dc y2pm y2an y2cd y2ct), y2sl⟩) (y2c : PySem.W.codeIn K y2cd "Twice.__init__" = true) (y2k : PySem.W.keepIn K (.ref y2g) = true) (y2pg : PySem.W.plainGet K C2 Str.empty = true) (y2hd : PySem.W.hasDictIn K C2 = true) (y2po : PySem.W.plainOver K C2 = true) (y2sa : PySem.W.findIn K (.ref C2) "__setattr__" = some (some (.builtin "object.__setattr__"))) (y2mk : PySem.W.makesIn K C2 = true) (y2kc : PySem.W.keepIn K (.ref C2) = true) (y2ha : PySem.W.findIn K (.ref C2) "__class__" = some (some (.builtin "object.__class__"))) (y2hn : PySem.W.specialIn K (.builtin "object.__class__") "__get__" = some (some (.builtin "getset_descriptor.__get__"))) (y2tk : PySem.W.takesIn K (.builtin "object.__class__") = some true) (y2mr : PySem.W.mroIn K C2 (.type "object") = some true) (y2n0 : PySem.W.findIn K (.ref C2) "first" = some none) (y2n1 : PySem.W.findIn K (.ref C2) "second" = some none)
    (kS1 : PySem.W.subIn K (.ref C1) (.ref C2) = some false)
    (kS2 : PySem.W.subIn K (.ref C1) (.ref C1) = some true)
    (kS3 : PySem.W.isClsIn K C2 = true)
    (kS4 : PySem.W.typeIn K (.ref C2) = some (.type "type"))
    : ∃ fd : FuncData, (∀ (s : Shared) (v : Value), BindsTo s fd ⟨[v], []⟩ [("_law_script", v)]) ∧ ∀ base : Heap, K.In base → base.Ns mainGlobals mg → FnOk l.prog w K mg base CX0 8 fa fd ["_law_script"] (spD K RLaw) := by
  have e := hfa.symm.trans (PySem.W.mg_of X G a19)
  cases e
  have hb : Blt mg := ⟨PySem.W.mg_none_of X G z_isinstance, PySem.W.mg_none_of X G z_int, PySem.W.mg_none_of X G z_bool, PySem.W.mg_none_of X G z_str, PySem.W.mg_none_of X G z_list, PySem.W.mg_none_of X G z_tuple, PySem.W.mg_none_of X G z_range, PySem.W.mg_none_of X G z_len, PySem.W.mg_none_of X G z_sum, PySem.W.mg_none_of X G z_abs, PySem.W.mg_none_of X G z_min, PySem.W.mg_none_of X G z_all, PySem.W.mg_none_of X G z_any, PySem.W.mg_none_of X G z_sorted, PySem.W.mg_none_of X G z_set, PySem.W.mg_none_of X G z_enumerate, PySem.W.mg_none_of X G z_zip, PySem.W.mg_none_of X G z_reversed⟩
  have hL : ∃ t, mg "LETTERS" = some (.str (SX.S [110, 119, 115, 101]) t) := ⟨tL, PySem.W.mg_of X G aL⟩
  have F_asked_walk := fun_mk (x := "asked_walk") (qual := "asked_walk") (st := s_asked_walk) l0 c0 k0
  have D_asked_walk : Df K mg "asked_walk" s_asked_walk ["walk"] := ⟨_, _, F_asked_walk, PySem.W.mg_of X G a0, F_asked_walk.binds (ps := ["walk"]) fun _ _ _ _ _ _ us hl => match us, hl with | [_], _ => rfl⟩
  have F_stepped := fun_mk (x := "stepped") (qual := "stepped") (st := s_stepped) l1 c1 k1
  have D_stepped : Df K mg "stepped" s_stepped ["place", "letter"] := ⟨_, _, F_stepped, PySem.W.mg_of X G a1, F_stepped.binds (ps := ["place", "letter"]) fun _ _ _ _ _ _ us hl => match us, hl with | [_, _], _ => rfl⟩
  have F_walked := fun_mk (x := "walked") (qual := "walked") (st := s_walked) l2 c2 k2
  have D_walked : Df K mg "walked" s_walked ["walk"] := ⟨_, _, F_walked, PySem.W.mg_of X G a2, F_walked.binds (ps := ["walk"]) fun _ _ _ _ _ _ us hl => match us, hl with | [_], _ => rfl⟩
  have F_end := fun_mk (x := "end") (qual := "end") (st := s_end) l3 c3 k3
  have D_end : Df K mg "end" s_end ["walk"] := ⟨_, _, F_end, PySem.W.mg_of X G a3, F_end.binds (ps := ["walk"]) fun _ _ _ _ _ _ us hl => match us, hl with | [_], _ => rfl⟩
  have F_asked_closed := fun_mk (x := "asked_closed") (qual := "asked_closed") (st := s_asked_closed) l4 c4 k4
  have D_asked_closed : Df K mg "asked_closed" s_asked_closed ["walk"] := ⟨_, _, F_asked_closed, PySem.W.mg_of X G a4, F_asked_closed.binds (ps := ["walk"]) fun _ _ _ _ _ _ us hl => match us, hl with | [_], _ => rfl⟩
  have F_area_of := fun_mk (x := "area_of") (qual := "area_of") (st := s_area_of) l5 c5 k5
  have D_area_of : Df K mg "area_of" s_area_of ["walk"] := ⟨_, _, F_area_of, PySem.W.mg_of X G a5, F_area_of.binds (ps := ["walk"]) fun _ _ _ _ _ _ us hl => match us, hl with | [_], _ => rfl⟩
  have F_area := fun_mk (x := "area") (qual := "area") (st := s_area) l6 c6 k6
  have D_area : Df K mg "area" s_area ["walk"] := ⟨_, _, F_area, PySem.W.mg_of X G a6, F_area.binds (ps := ["walk"]) fun _ _ _ _ _ _ us hl => match us, hl with | [_], _ => rfl⟩
  have F_crossings := fun_mk (x := "crossings") (qual := "crossings") (st := s_crossings) l7 c7 k7
  have D_crossings : Df K mg "crossings" s_crossings ["walk"] := ⟨_, _, F_crossings, PySem.W.mg_of X G a7, F_crossings.binds (ps := ["walk"]) fun _ _ _ _ _ _ us hl => match us, hl with | [_], _ => rfl⟩
  have F_squares_of := fun_mk (x := "squares_of") (qual := "squares_of") (st := s_squares_of) l8 c8 k8
  have D_squares_of : Df K mg "squares_of" s_squares_of ["walk"] := ⟨_, _, F_squares_of, PySem.W.mg_of X G a8, F_squares_of.binds (ps := ["walk"]) fun _ _ _ _ _ _ us hl => match us, hl with | [_], _ => rfl⟩
  have F_squares := fun_mk (x := "squares") (qual := "squares") (st := s_squares) l9 c9 k9
  have D_squares : Df K mg "squares" s_squares ["walk"] := ⟨_, _, F_squares, PySem.W.mg_of X G a9, F_squares.binds (ps := ["walk"]) fun _ _ _ _ _ _ us hl => match us, hl with | [_], _ => rfl⟩
  have F_own_places := fun_mk (x := "own_places") (qual := "own_places") (st := s_own_places) l10 c10 k10
  have D_own_places : Df K mg "own_places" s_own_places ["walk"] := ⟨_, _, F_own_places, PySem.W.mg_of X G a10, F_own_places.binds (ps := ["walk"]) fun _ _ _ _ _ _ us hl => match us, hl with | [_], _ => rfl⟩
  have F_meets := fun_mk (x := "meets") (qual := "meets") (st := s_meets) l11 c11 k11
  have D_meets : Df K mg "meets" s_meets ["walk"] := ⟨_, _, F_meets, PySem.W.mg_of X G a11, F_meets.binds (ps := ["walk"]) fun _ _ _ _ _ _ us hl => match us, hl with | [_], _ => rfl⟩
  have F_asked_loop := fun_mk (x := "asked_loop") (qual := "asked_loop") (st := s_asked_loop) l12 c12 k12
  have D_asked_loop : Df K mg "asked_loop" s_asked_loop ["walk"] := ⟨_, _, F_asked_loop, PySem.W.mg_of X G a12, F_asked_loop.binds (ps := ["walk"]) fun _ _ _ _ _ _ us hl => match us, hl with | [_], _ => rfl⟩
  have F_turns := fun_mk (x := "turns") (qual := "turns") (st := s_turns) l13 c13 k13
  have D_turns : Df K mg "turns" s_turns ["walk"] := ⟨_, _, F_turns, PySem.W.mg_of X G a13, F_turns.binds (ps := ["walk"]) fun _ _ _ _ _ _ us hl => match us, hl with | [_], _ => rfl⟩
  have F_within := fun_mk (x := "within") (qual := "within") (st := s_within) l14 c14 k14
  have D_within : Df K mg "within" s_within ["walk"] := ⟨_, _, F_within, PySem.W.mg_of X G a14, F_within.binds (ps := ["walk"]) fun _ _ _ _ _ _ us hl => match us, hl with | [_], _ => rfl⟩
  have F__law_tree := fun_mk (x := "_law_tree") (qual := "_law_tree") (st := s__law_tree) l15 c15 k15
  have D__law_tree : Df K mg "_law_tree" s__law_tree ["_law_script"] := ⟨_, _, F__law_tree, PySem.W.mg_of X G a15, F__law_tree.binds (ps := ["_law_script"]) fun _ _ _ _ _ _ us hl => match us, hl with | [_], _ => rfl⟩
  have F__law_rim := fun_mk (x := "_law_rim") (qual := "_law_rim") (st := s__law_rim) l16 c16 k16
  have D__law_rim : Df K mg "_law_rim" s__law_rim ["_law_tree_here", "_law_start"] := ⟨_, _, F__law_rim, PySem.W.mg_of X G a16, F__law_rim.binds (ps := ["_law_tree_here", "_law_start"]) fun _ _ _ _ _ _ us hl => match us, hl with | [_, _], _ => rfl⟩
  have F__law_inner := fun_mk (x := "_law_inner") (qual := "_law_inner") (st := s__law_inner) l17 c17 k17
  have D__law_inner : Df K mg "_law_inner" s__law_inner ["_law_tree_here"] := ⟨_, _, F__law_inner, PySem.W.mg_of X G a17, F__law_inner.binds (ps := ["_law_tree_here"]) fun _ _ _ _ _ _ us hl => match us, hl with | [_], _ => rfl⟩
  have F__law_right := fun_mk (x := "_law_right") (qual := "_law_right") (st := s__law_right) l18 c18 k18
  have D__law_right : Df K mg "_law_right" s__law_right ["_law_loop", "_law_tree_here"] := ⟨_, _, F__law_right, PySem.W.mg_of X G a18, F__law_right.binds (ps := ["_law_loop", "_law_tree_here"]) fun _ _ _ _ _ _ us hl => match us, hl with | [_, _], _ => rfl⟩
  have F_law := fun_mk (x := "law") (qual := "law") (st := s_law) l19 c19 k19
  refine ⟨PySem.W.fnOf "law" "law" (defArgs s_law) (defBody s_law) (defScope s_law) .none kV19 dc19 pm19 an19 cd19 ct19, fun s v => .of_eq rfl, fun base _ _ => ?_⟩
  have F_Simple := fun_mk (x := "__init__") (qual := "Simple.__init__") (st := s_Simple___init__) y1l y1c y1k
  have K_Simple : Cls K C1 := ⟨y1pg, y1hd, y1po, y1sa⟩
  have T_Simple : Ty1 K C1 := ⟨K_Simple, y1ha, y1hn, y1tk, y1mr⟩
  have m_Simple := PySem.W.mg_of X G y1A
  have M_Simple : MkD l.prog w K mg base 1 "Simple" C1 (spI1 K C1) := ⟨⟨_, _, _, init1_ok F_Simple hb K_Simple y1n0, ⟨y1mk, y1a, y1i, y1kc⟩, F_Simple.binds (ps := ["self", "places"]) fun _ _ _ _ _ _ us hl => match us, hl with | [_, _], _ => rfl⟩, m_Simple⟩
  have F_Twice := fun_mk (x := "__init__") (qual := "Twice.__init__") (st := s_Twice___init__) y2l y2c y2k
  have K_Twice : Cls K C2 := ⟨y2pg, y2hd, y2po, y2sa⟩
  have T_Twice : Ty1 K C2 := ⟨K_Twice, y2ha, y2hn, y2tk, y2mr⟩
  have m_Twice := PySem.W.mg_of X G y2A
  have M_Twice : MkD l.prog w K mg base 1 "Twice" C2 (spI2 K C2) := ⟨⟨_, _, _, init2_ok F_Twice K_Twice y2n0 y2n1, ⟨y2mk, y2a, y2i, y2kc⟩, F_Twice.binds (ps := ["self", "first", "second"]) fun _ _ _ _ _ _ us hl => match us, hl with | [_, _, _], _ => rfl⟩, m_Twice⟩
  have c_asked_walk := ok_asked_walk (P := l.prog) (w := w) (base := base) D_asked_walk hb hL
  have c_stepped := ok_stepped (P := l.prog) (w := w) (base := base) D_stepped
  have c_walked := ok_walked D_walked c_stepped
  have c_end := ok_end D_end c_asked_walk
  have c_asked_closed := ok_asked_closed D_asked_closed c_end
  have c_area_of := ok_area_of D_area_of hb c_walked
  have c_area := ok_area D_area c_asked_closed c_area_of
  have c_crossings := ok_crossings D_crossings hb c_walked
  have c_squares_of := ok_squares_of D_squares_of hb c_crossings
  have c_squares := ok_squares D_squares c_asked_closed c_squares_of
  have c_own_places := ok_own_places D_own_places hb c_walked
  have c_meets := ok_meets D_meets hb c_asked_walk c_own_places M_Simple M_Twice
  have c_asked_loop := ok_asked_loop D_asked_loop hb c_asked_closed c_meets T_Simple m_Twice (kit_no kS1 kS2 kS3 kS4)
  have c_turns := ok_turns D_turns hb hL c_asked_loop
  have c_within := ok_within D_within hb c_asked_loop c_squares_of
  have l_tree := ok__law_tree (P := l.prog) (w := w) (base := base) D__law_tree hb
  have l_rim := ok__law_rim (P := l.prog) (w := w) (base := base) D__law_rim hb
  have l_inner := ok__law_inner (P := l.prog) (w := w) (base := base) D__law_inner hb
  have l_right := ok__law_right D__law_right hb c_squares c_area c_turns c_within c_meets T_Simple m_Simple kit_self l_inner
  exact ok_law F_law hb l_tree l_rim l_right
theorem walk {l : PySem.W.OpenLaw} {q : Program} {loose : List Str} {XP : (Str → Option Value) → Heap → Prop} {YP : World → Heap → Prop} {d : DefRec} {K : Params → PySem.W.Frag} (hn : l.most = some 63) (hdf : d.params.defaults = [])
    (hY : ∀ (w : World) (h : Heap), YP w h → (K w.params).In h)
    (F : ∀ (w : World) (mg : Str → Option Value) (fa : Addr) (h : Heap), (K w.params).In h → h.Ns mainGlobals mg → mg d.name = some (.ref fa) →
      ∃ fd : FuncData, (∀ (s : Shared) (u : Value), BindsTo s fd ⟨[u], []⟩ [("_law_script", u)]) ∧ ∀ base : Heap, (K w.params).In base → base.Ns mainGlobals mg → FnOk l.prog w (K w.params) mg base CX0 8 fa fd ["_law_script"] (spD (K w.params) RLaw)) :
    PySem.W.WalkO q loose XP YP l.row.toRowW d [] (fun f vs => PySem.call f vs) :=
  L2.walk_of (n := 63) (k := 8) (x := "_law_script") (CX := fun _ => CX0) (sp := fun w => spD (K w.params) RLaw) hn (by decide) hdf ⟨rfl, by decide, by decide⟩ hY F (fun _ _ a ns hl _ hS => spLaw_of hl hS) fun _ _ _ _ _ z => z
end Sw
open PySem PySem.W PyProof.Rows
set_option maxRecDepth 100000 in
set_option maxHeartbeats 0 in
theorem PySem.Challenge.cw_squarewalk_k09_whole_branches_holds : PySem.Challenge.rw_squarewalk_k09_whole_branches.Holds := by
  w_on; o_law; k_head; (case hw => w_witness2)
  k_fill
  refine Sw.walk (l := PySem.Challenge.rw_squarewalk_k09_whole_branches) rfl rfl (fun w h Y => PySem.W.kIn_of Y) ?F
  case F =>
    intro w mg fa h KX G hmg
    refine' Sw.all_mk KX G hmg ?a0 ?l0 ?c0 ?k0 ?a1 ?l1 ?c1 ?k1 ?a2 ?l2 ?c2 ?k2 ?a3 ?l3 ?c3 ?k3 ?a4 ?l4 ?c4 ?k4 ?a5 ?l5 ?c5 ?k5 ?a6 ?l6 ?c6 ?k6 ?a7 ?l7 ?c7 ?k7 ?a8 ?l8 ?c8 ?k8 ?a9 ?l9 ?c9 ?k9 ?a10 ?l10 ?c10 ?k10 ?a11 ?l11 ?c11 ?k11 ?a12 ?l12 ?c12 ?k12 ?a13 ?l13 ?c13 ?k13 ?a14 ?l14 ?c14 ?k14 ?a15 ?l15 ?c15 ?k15 ?a16 ?l16 ?c16 ?k16 ?a17 ?l17 ?c17 ?k17 ?a18 ?l18 ?c18 ?k18 ?a19 ?l19 ?c19 ?k19 ?z_isinstance ?z_int ?z_bool ?z_str ?z_list ?z_tuple ?z_range ?z_len ?z_sum ?z_abs ?z_min ?z_all ?z_any ?z_sorted ?z_set ?z_enumerate ?z_zip ?z_reversed ?aL ?y1A ?y1a ?y1i ?y1l ?y1c ?y1k ?y1pg ?y1hd ?y1po ?y1sa ?y1mk ?y1kc ?y1ha ?y1hn ?y1tk ?y1mr ?y1n0 ?y2A ?y2a ?y2i ?y2l ?y2c ?y2k ?y2pg ?y2hd ?y2po ?y2sa ?y2mk ?y2kc ?y2ha ?y2hn ?y2tk ?y2mr ?y2n0 ?y2n1 ?kS1 ?kS2 ?kS3 ?kS4
    (case a0 => k_is)
    (case l0 => k_is)
    (case c0 => k_is)
    (case k0 => k_is)
    (case a1 => k_is)
    (case l1 => k_is)
    (case c1 => k_is)
    (case k1 => k_is)
    (case a2 => k_is)
    (case l2 => k_is)
    (case c2 => k_is)
    (case k2 => k_is)
    (case a3 => k_is)
    (case l3 => k_is)
    (case c3 => k_is)
    (case k3 => k_is)
    (case a4 => k_is)
    (case l4 => k_is)
    (case c4 => k_is)
    (case k4 => k_is)
    (case a5 => k_is)
    (case l5 => k_is)
    (case c5 => k_is)
    (case k5 => k_is)
    (case a6 => k_is)
    (case l6 => k_is)
    (case c6 => k_is)
    (case k6 => k_is)
    (case a7 => k_is)
    (case l7 => k_is)
    (case c7 => k_is)
    (case k7 => k_is)
    (case a8 => k_is)
    (case l8 => k_is)
    (case c8 => k_is)
    (case k8 => k_is)
    (case a9 => k_is)
    (case l9 => k_is)
    (case c9 => k_is)
    (case k9 => k_is)
    (case a10 => k_is)
    (case l10 => k_is)
    (case c10 => k_is)
    (case k10 => k_is)
    (case a11 => k_is)
    (case l11 => k_is)
    (case c11 => k_is)
    (case k11 => k_is)
    (case a12 => k_is)
    (case l12 => k_is)
    (case c12 => k_is)
    (case k12 => k_is)
    (case a13 => k_is)
    (case l13 => k_is)
    (case c13 => k_is)
    (case k13 => k_is)
    (case a14 => k_is)
    (case l14 => k_is)
    (case c14 => k_is)
    (case k14 => k_is)
    (case a15 => k_is)
    (case l15 => k_is)
    (case c15 => k_is)
    (case k15 => k_is)
    (case a16 => k_is)
    (case l16 => k_is)
    (case c16 => k_is)
    (case k16 => k_is)
    (case a17 => k_is)
    (case l17 => k_is)
    (case c17 => k_is)
    (case k17 => k_is)
    (case a18 => k_is)
    (case l18 => k_is)
    (case c18 => k_is)
    (case k18 => k_is)
    (case a19 => k_is)
    (case l19 => k_is)
    (case c19 => k_is)
    (case k19 => k_is)
    (case z_isinstance => k_is)
    (case z_int => k_is)
    (case z_bool => k_is)
    (case z_str => k_is)
    (case z_list => k_is)
    (case z_tuple => k_is)
    (case z_range => k_is)
    (case z_len => k_is)
    (case z_sum => k_is)
    (case z_abs => k_is)
    (case z_min => k_is)
    (case z_all => k_is)
    (case z_any => k_is)
    (case z_sorted => k_is)
    (case z_set => k_is)
    (case z_enumerate => k_is)
    (case z_zip => k_is)
    (case z_reversed => k_is)
    (case aL => k_is)
    (case y1A => k_is)
    (case y1a => k_is)
    (case y1i => k_is)
    (case y1l => k_is)
    (case y1c => k_is)
    (case y1k => k_is)
    (case y1pg => k_is)
    (case y1hd => k_is)
    (case y1po => k_is)
    (case y1sa => k_is)
    (case y1mk => k_is)
    (case y1kc => k_is)
    (case y1ha => k_is)
    (case y1hn => k_is)
    (case y1tk => k_is)
    (case y1mr => k_is)
    (case y1n0 => k_is)
    (case y2A => k_is)
    (case y2a => k_is)
    (case y2i => k_is)
    (case y2l => k_is)
    (case y2c => k_is)
    (case y2k => k_is)
    (case y2pg => k_is)
    (case y2hd => k_is)
    (case y2po => k_is)
    (case y2sa => k_is)
    (case y2mk => k_is)
    (case y2kc => k_is)
    (case y2ha => k_is)
    (case y2hn => k_is)
    (case y2tk => k_is)
    (case y2mr => k_is)
    (case y2n0 => k_is)
    (case y2n1 => k_is)
    (case kS1 => k_is)
    (case kS2 => k_is)
    (case kS3 => k_is)
    (case kS4 => k_is)
