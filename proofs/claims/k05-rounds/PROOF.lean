import PyProof.Rows.All
import Wide.All
import OpenK.AllK
import Wide.FinOn
import HandS.ForMost
import HandS.Flow
import HandS.Wide
import HandS.Style
import HandS.Deep
import HandS.IsInst
import HandS.Zip
import KE.DataCmp
import KE.DataMinMax
import KE.SortData
import HandS.TupAny
import HandS.TupLen
import HandS.ExcOwn
import HandS.Conv
import HandS.Words
import HandS.Ends
import PySem.Challenge.RW_hourring_k05_rounds_known
set_option Elab.async false
set_option linter.all false
set_option maxRecDepth 100000
set_option maxHeartbeats 4000000
/-! MP1: values by data, cells of an abstract store, and how they stand in the layer's heap. -/
namespace MP
open PySem PySem.Spec PyProof.Rows L2

/-- a value: tuples and frozen lists by value; what may be changed by its address -/
inductive W where
  | non | bl (b : Bool) | int (i : Int) | str (x : Str) | ref (a : Addr) | tup (xs : List W) | lst (xs : List W)
/-- a cell that may be changed; lk: one that is being walked, only read -/
inductive Ob where
  | lst (xs : List W) | dk (kvs : List (Key × W)) | dt (kvs : List (List Key × W)) | ins (C : Addr) (fs : List (Str × W)) | lk (o : Ob)
abbrev Sto := Addr → Option Ob
def sup (S : Sto) (a : Addr) (o : Ob) : Sto := fun b => if b = a then some o else S b
def sdel (S : Sto) (a : Addr) : Sto := fun b => if b = a then none else S b
theorem sup_same {S : Sto} {a : Addr} {o : Ob} : sup S a o a = some o := by unfold sup; rw [if_pos rfl]
theorem sup_ne {S : Sto} {a b : Addr} {o : Ob} (h : b ≠ a) : sup S a o b = S b := by unfold sup; rw [if_neg h]
theorem sdel_same {S : Sto} {a : Addr} : sdel S a a = none := by unfold sdel; rw [if_pos rfl]
theorem sdel_ne {S : Sto} {a b : Addr} (h : b ≠ a) : sdel S a b = S b := by unfold sdel; rw [if_neg h]
theorem sup_sup {S : Sto} {a : Addr} {o u : Ob} : sup (sup S a o) a u = sup S a u := by
  funext b; unfold sup; split <;> rfl
theorem sdel_sup {S : Sto} {a : Addr} {o : Ob} (h : S a = none) : sdel (sup S a o) a = S := by
  funext b; unfold sdel sup; split
  · rename_i e; rw [e]; exact h.symm
  · rfl
theorem sup_eq {S : Sto} {a : Addr} {o : Ob} (h : S a = some o) : sup S a o = S := by
  funext b; unfold sup; split
  · rename_i e; rw [e]; exact h.symm
  · rfl
theorem sne_of {S : Sto} {a p : Addr} {o : Ob} (h : S a = some o) (hp : S p = none) : a ≠ p := by
  intro e; subst e; rw [h] at hp; cases hp

/-! ### how a value stands -/
/-- the written part; addresses that are hidden (a list that a comprehension is making) -/
structure KH where
  K : PySem.W.Frag
  h : Addr → Bool
/-- a list that stands in the written part -/
def SqK (K : PySem.W.Frag) (a : Addr) (xs : List V) : Prop := ∃ (its : Array Value) (n : Nat), K.lookup a = some { cls := .type "list", data := .seq its n } ∧ its.size ≤ sizeLine ∧ Vals xs its.toList
def SqR (K : PySem.W.Frag) (H : Hp) (a : Addr) (xs : List V) : Prop := Rd H a (.lst xs) ∨ SqK K a xs
theorem SqR.sq {K : PySem.W.Frag} {H : Hp} {a : Addr} {xs : List V} (h : SqR K H a xs) : SqL K H a xs := by
  rcases h with h | ⟨its, n, h1, h2, h3⟩
  · exact .inl h
  · exact .inr ⟨_, its, n, h1, rfl, rfl, rfl, h2, h3⟩
mutual
inductive Rep (K : KH) (F : Hp) : W → V → Prop
  | non : Rep K F .non .non
  | bl (b : Bool) : Rep K F (.bl b) (.bl b)
  | int (i : Int) : Rep K F (.int i) (.int i)
  | str (x : Str) : Rep K F (.str x) (.str x)
  | ref (a : Addr) : Rep K F (.ref a) (.ref a)
  | tup {a : Addr} {vs : List V} {ws : List W} : K.h a = false → F a = some (.tup vs) → RepL K F ws vs → Rep K F (.tup ws) (.ref a)
  | lst {a : Addr} {vs : List V} {ws : List W} : K.h a = false → Rd F a (.lst vs) → RepL K F ws vs → Rep K F (.lst ws) (.ref a)
  | klst {a : Addr} {vs : List V} {ws : List W} : SqK K.K a vs → RepL K F ws vs → Rep K F (.lst ws) (.ref a)
inductive RepL (K : KH) (F : Hp) : List W → List V → Prop
  | nil : RepL K F [] []
  | cons {w : W} {ws : List W} {v : V} {vs : List V} : Rep K F w v → RepL K F ws vs → RepL K F (w :: ws) (v :: vs)
end
theorem same_rd {H H' : Hp} {a : Addr} {u : HO} (e : Same H H') (h : Rd H a u) : Rd H' a u := by
  rcases h with h | ⟨o, h⟩
  · exact .inl (e _ _ h)
  · exact .inr ⟨o, e _ _ h⟩
mutual
theorem Rep.mono {K : KH} {F F' : Hp} (e : Same F F') : ∀ {w : W} {v : V}, Rep K F w v → Rep K F' w v
  | _, _, .non => .non
  | _, _, .bl b => .bl b
  | _, _, .int i => .int i
  | _, _, .str x => .str x
  | _, _, .ref a => .ref a
  | _, _, .tup n h r => .tup n (e _ _ h) (RepL.mono e r)
  | _, _, .lst n h r => .lst n (same_rd e h) (RepL.mono e r)
  | _, _, .klst h r => .klst h (RepL.mono e r)
theorem RepL.mono {K : KH} {F F' : Hp} (e : Same F F') : ∀ {ws : List W} {vs : List V}, RepL K F ws vs → RepL K F' ws vs
  | _, _, .nil => .nil
  | _, _, .cons h r => .cons (Rep.mono e h) (RepL.mono e r)
end
section
variable {K : KH} {F F' : Hp}
theorem RepL.length : ∀ {ws : List W} {vs : List V}, RepL K F ws vs → ws.length = vs.length
  | _, _, .nil => rfl
  | _, _, .cons _ r => by rw [List.length_cons, List.length_cons, RepL.length r]
theorem RepL.get : ∀ {ws : List W} {vs : List V} {i : Nat} {w : W}, RepL K F ws vs → ws[i]? = some w → ∃ v, vs[i]? = some v ∧ Rep K F w v
  | _, _, _, _, .nil, e => by simp at e
  | _, _, 0, _, .cons h _, e => by simp at e; subst e; exact ⟨_, rfl, h⟩
  | _, _, i + 1, w, .cons _ r, e => by
    obtain ⟨v, h1, h2⟩ := RepL.get (i := i) (w := w) r (by simpa using e)
    exact ⟨v, by simpa using h1, h2⟩
theorem RepL.get' : ∀ {ws : List W} {vs : List V} {i : Nat} {v : V}, RepL K F ws vs → vs[i]? = some v → ∃ w, ws[i]? = some w ∧ Rep K F w v
  | _, _, _, _, .nil, e => by simp at e
  | _, _, 0, _, .cons h _, e => by simp at e; subst e; exact ⟨_, rfl, h⟩
  | _, _, i + 1, v, .cons _ r, e => by
    obtain ⟨w, h1, h2⟩ := RepL.get' (i := i) (v := v) r (by simpa using e)
    exact ⟨w, by simpa using h1, h2⟩
theorem RepL.append : ∀ {xs ys : List W} {us vs : List V}, RepL K F xs us → RepL K F ys vs → RepL K F (xs ++ ys) (us ++ vs)
  | _, _, _, _, .nil, s => s
  | _, _, _, _, .cons h r, s => .cons h (RepL.append r s)
theorem RepL.take : ∀ {ws : List W} {vs : List V} (n : Nat), RepL K F ws vs → RepL K F (ws.take n) (vs.take n)
  | _, _, 0, _ => .nil
  | _, _, _ + 1, .nil => .nil
  | _, _, n + 1, .cons h r => .cons h (RepL.take n r)
theorem RepL.drop : ∀ {ws : List W} {vs : List V} (n : Nat), RepL K F ws vs → RepL K F (ws.drop n) (vs.drop n)
  | _, _, 0, r => r
  | _, _, _ + 1, .nil => .nil
  | _, _, n + 1, .cons _ r => RepL.drop n r
theorem RepL.set {w : W} {v : V} (h : Rep K F w v) : ∀ {ws : List W} {vs : List V} (i : Nat), RepL K F ws vs → RepL K F (ws.set i w) (vs.set i v)
  | _, _, _, .nil => .nil
  | _, _, 0, .cons _ r => .cons h r
  | _, _, i + 1, .cons q r => .cons q (RepL.set h i r)
theorem RepL.reverse {ws : List W} {vs : List V} (r : RepL K F ws vs) : RepL K F ws.reverse vs.reverse := by
  induction ws generalizing vs with
  | nil => cases r; exact .nil
  | cons w ws ih =>
    cases r with
    | cons h r =>
      rw [List.reverse_cons, List.reverse_cons]
      exact (ih r).append (.cons h .nil)
theorem RepL.rep {ws : List W} {vs : List V} (r : RepL K F ws vs) : ∀ k : Nat, RepL K F (List.replicate k ws).flatten (List.replicate k vs).flatten
  | 0 => .nil
  | k + 1 => by
    rw [List.replicate_succ, List.replicate_succ, List.flatten_cons, List.flatten_cons]
    exact r.append (r.rep k)
theorem RepL.dropLast {ws : List W} {vs : List V} (r : RepL K F ws vs) : RepL K F ws.dropLast vs.dropLast := by
  rw [List.dropLast_eq_take, List.dropLast_eq_take, r.length]
  exact r.take _
theorem RepL.eraseIdx : ∀ {ws : List W} {vs : List V} (i : Nat), RepL K F ws vs → RepL K F (ws.eraseIdx i) (vs.eraseIdx i)
  | _, _, _, .nil => .nil
  | _, _, 0, .cons _ r => r
  | _, _, i + 1, .cons h r => .cons h (RepL.eraseIdx i r)
theorem RepL.split {xs : List W} : ∀ {ys : List W} {vs : List V}, RepL K F (xs ++ ys) vs → ∃ us us', vs = us ++ us' ∧ RepL K F xs us ∧ RepL K F ys us' := by
  induction xs with
  | nil => intro ys vs r; exact ⟨[], vs, rfl, .nil, r⟩
  | cons x xs ih =>
    intro ys vs r
    cases r with
    | cons h r =>
      obtain ⟨us, us', rfl, a, b⟩ := ih r
      exact ⟨_ :: us, us', rfl, .cons h a, b⟩
theorem RepL.ints : ∀ {ns : List Int} {vs : List V}, RepL K F (ns.map W.int) vs → vs = ns.map V.int
  | [], _, .nil => rfl
  | n :: ns, _, .cons h r => by
    cases h
    rw [RepL.ints r]
    rfl
theorem RepL.strs : ∀ {ns : List Str} {vs : List V}, RepL K F (ns.map W.str) vs → vs = ns.map V.str
  | [], _, .nil => rfl
  | n :: ns, _, .cons h r => by
    cases h
    rw [RepL.strs r]
    rfl
theorem RepL.bls : ∀ {ns : List Bool} {vs : List V}, RepL K F (ns.map W.bl) vs → vs = ns.map V.bl
  | [], _, .nil => rfl
  | n :: ns, _, .cons h r => by
    cases h
    rw [RepL.bls r]
    rfl
theorem RepL.ofInts : ∀ {ns : List Int}, RepL K F (ns.map W.int) (ns.map V.int)
  | [] => .nil
  | n :: ns => .cons (.int n) RepL.ofInts
theorem RepL.ofStrs : ∀ {ns : List Str}, RepL K F (ns.map W.str) (ns.map V.str)
  | [] => .nil
  | n :: ns => .cons (.str n) RepL.ofStrs
end

/-! ### cells -/
/-- the layer's heap without the cells -/
def fz (S : Sto) (H : Hp) : Hp := fun b => if (S b).isSome then none else H b
theorem fz_none {S : Sto} {H : Hp} {b : Addr} (h : S b = none) : fz S H b = H b := by
  unfold fz; rw [h]; rfl
theorem fz_some {S : Sto} {H : Hp} {b : Addr} {o : HO} (h : fz S H b = some o) : S b = none ∧ H b = some o := by
  unfold fz at h
  cases e : S b with
  | none => rw [e] at h; exact ⟨rfl, h⟩
  | some u => rw [e] at h; cases h
theorem fz_sub {S : Sto} {H : Hp} : Same (fz S H) H := fun _ _ h => (fz_some h).2
abbrev KVR {κ : Type} (K : KH) (F : Hp) : List (κ × W) → List (κ × V) → Prop := Paired fun p q => p.1 = q.1 ∧ Rep K F p.2 q.2
/-- what stands for a cell's content -/
def ObR (K : KH) (F H : Hp) (a : Addr) : Ob → HO → Prop
  | .lst ws, u => ∃ vs, u = .lst vs ∧ RepL K F ws vs
  | .dk kvs, u => ∃ kv', u = .dK kv' ∧ KVR K F kvs kv'
  | .dt kvs, u => ∃ kv', u = .dT kv' ∧ KVR K F kvs kv'
  | .ins C fs, u => ∃ dx fs', u = .ins C dx fs' ∧ KVR K F fs fs'
  | .lk o, u => ∃ od u', u = .frz od u' ∧ ObR K F H a o u'
theorem KVR.mono {κ : Type} {K : KH} {F F' : Hp} (e : Same F F') {kvs : List (κ × W)} {kv' : List (κ × V)} (r : KVR K F kvs kv') : KVR K F' kvs kv' :=
  Paired.mapP r fun _ _ z => ⟨z.1, z.2.mono e⟩
theorem ObR.mono {K : KH} {F F' H H' : Hp} {a : Addr} (e : Same F F') : ∀ {o : Ob} {u : HO}, ObR K F H a o u → ObR K F' H' a o u
  | .lst _, _, ⟨vs, h, r⟩ => ⟨vs, h, r.mono e⟩
  | .dk _, _, ⟨kv', h, r⟩ => ⟨kv', h, r.mono e⟩
  | .dt _, _, ⟨kv', h, r⟩ => ⟨kv', h, r.mono e⟩
  | .ins _ _, _, ⟨dx, fs', h, r⟩ => ⟨dx, fs', h, r.mono e⟩
  | .lk o, _, ⟨od, u', h, r⟩ => ⟨od, u', h, ObR.mono (o := o) e r⟩
structure StoOk (K : KH) (S : Sto) (H : Hp) : Prop where
  at' : ∀ a o, S a = some o → ∃ u, H a = some u ∧ ObR K (fz S H) H a o u
  hid : ∀ a, K.h a = true → S a = none ∧ ∃ u, H a = some u
section
variable {K : KH} {S S' : Sto} {H H' : Hp} {p a : Addr} {o u : HO} {ob : Ob}
theorem StoOk.free (k : StoOk K S H) (h : H p = none) : S p = none := by
  cases e : S p with
  | none => rfl
  | some u =>
    obtain ⟨v, hv, _⟩ := k.at' p u e
    rw [hv] at h; cases h
/-- a new thing, frozen -/
theorem same_new (k : StoOk K S H) (h : H p = none) : Same (fz S H) (fz S (upd H p o)) := fun b u e => by
  obtain ⟨h1, h2⟩ := fz_some e
  rw [fz_none h1, upd_ne (ne_of_none h2 h)]
  exact h2
theorem fz_new (k : StoOk K S H) (h : H p = none) : fz S (upd H p o) p = some o := by
  rw [fz_none (k.free h), upd_same]
theorem StoOk.nohid (k : StoOk K S H) (h : H p = none) : K.h p = false := by
  cases e : K.h p with
  | false => rfl
  | true =>
    obtain ⟨_, u, hu⟩ := k.hid p e
    rw [h] at hu; cases hu
/-- what is hidden stays -/
theorem StoOk.hidTo (k : StoOk K S H) (e : Same (fz S H) (fz S' H')) : ∀ a, K.h a = true → S' a = none ∧ ∃ u, H' a = some u := fun a h => by
  obtain ⟨h1, u, h2⟩ := k.hid a h
  obtain ⟨h3, h4⟩ := fz_some (e a u (by rw [fz_none h1]; exact h2))
  exact ⟨h3, u, h4⟩
theorem StoOk.new (k : StoOk K S H) (h : H p = none) : StoOk K S (upd H p o) := ⟨fun b u e => by
  obtain ⟨v, hv, r⟩ := k.at' b u e
  exact ⟨v, by rw [upd_ne (ne_of_none hv h)]; exact hv, r.mono (same_new k h)⟩, k.hidTo (same_new k h)⟩
/-- a new thing, a cell -/
theorem same_newc (k : StoOk K S H) (h : H p = none) : Same (fz S H) (fz (sup S p ob) (upd H p o)) := fun b u e => by
  obtain ⟨h1, h2⟩ := fz_some e
  have hb := ne_of_none h2 h
  rw [fz_none (by rw [sup_ne hb]; exact h1), upd_ne hb]
  exact h2
theorem StoOk.newc (k : StoOk K S H) (h : H p = none) (r : ObR K (fz S H) H p ob o) : StoOk K (sup S p ob) (upd H p o) := ⟨fun b u e => by
  by_cases hb : b = p
  · subst hb
    rw [sup_same] at e; cases e
    exact ⟨o, upd_same, r.mono (same_newc k h)⟩
  · rw [sup_ne hb] at e
    obtain ⟨v, hv, q⟩ := k.at' b u e
    exact ⟨v, by rw [upd_ne hb]; exact hv, q.mono (same_newc k h)⟩, k.hidTo (same_newc k h)⟩
/-- a cell is changed -/
theorem fz_put {ob' : Ob} (h : S a = some ob') : fz (sup S a ob) (upd H a o) = fz S H := by
  funext b
  by_cases hb : b = a
  · subst hb
    unfold fz
    rw [sup_same, h]
    rfl
  · unfold fz
    rw [sup_ne hb, upd_ne hb]
theorem StoOk.put {ob' : Ob} (k : StoOk K S H) (h : S a = some ob') (r : ObR K (fz S H) H a ob o) : StoOk K (sup S a ob) (upd H a o) := ⟨fun b u e => by
  rw [fz_put h]
  by_cases hb : b = a
  · subst hb
    rw [sup_same] at e; cases e
    exact ⟨o, upd_same, r.mono (Same.refl _)⟩
  · rw [sup_ne hb] at e
    obtain ⟨v, hv, q⟩ := k.at' b u e
    exact ⟨v, by rw [upd_ne hb]; exact hv, q.mono (Same.refl _)⟩, k.hidTo (by rw [fz_put h]; exact Same.refl _)⟩
/-- a cell is no longer changed -/
theorem same_del : Same (fz S H) (fz (sdel S a) H) := fun b u e => by
  obtain ⟨h1, h2⟩ := fz_some e
  have : sdel S a b = none := by unfold sdel; split <;> first | rfl | exact h1
  rw [fz_none this]
  exact h2
theorem StoOk.del (k : StoOk K S H) : StoOk K (sdel S a) H := ⟨fun b u e => by
  by_cases hb : b = a
  · subst hb; rw [sdel_same] at e; cases e
  · rw [sdel_ne hb] at e
    obtain ⟨v, hv, q⟩ := k.at' b u e
    exact ⟨v, hv, q.mono same_del⟩, k.hidTo same_del⟩
/-- fewer cells -/
def Fewer (S' S : Sto) : Prop := ∀ a o, S' a = some o → S a = some o
theorem same_fewer (f : Fewer S' S) : Same (fz S H) (fz S' H) := fun b u e => by
  obtain ⟨h1, h2⟩ := fz_some e
  have : S' b = none := by
    cases q : S' b with
    | none => rfl
    | some v => rw [f b v q] at h1; cases h1
  rw [fz_none this]
  exact h2
theorem StoOk.fewer (k : StoOk K S H) (f : Fewer S' S) : StoOk K S' H := ⟨fun b u e => by
  obtain ⟨v, hv, q⟩ := k.at' b u (f b u e)
  exact ⟨v, hv, q.mono (same_fewer f)⟩, k.hidTo (same_fewer f)⟩
end

/-! ### names -/
abbrev Env := List (Option W)
structure Sim (K : KH) (ρ : Env) (σ : L2.St) (S : Sto) (H : Hp) : Prop where
  var : ∀ (i : Nat) (w : W), ρ[i]? = some (some w) → ∃ v, σ[i]? = some (some v) ∧ Rep K (fz S H) w v
  len : ρ.length = σ.length
  sto : StoOk K S H
section
variable {K : KH} {ρ : Env} {σ : L2.St} {S S' : Sto} {H H' : Hp}
theorem Sim.to (s : Sim K ρ σ S H) (e : Same (fz S H) (fz S' H')) (k : StoOk K S' H') : Sim K ρ σ S' H' :=
  ⟨fun i w h => let ⟨v, h1, h2⟩ := s.var i w h; ⟨v, h1, h2.mono e⟩, s.len, k⟩
theorem Sim.set {i : Nat} {w : W} {v : V} (s : Sim K ρ σ S H) (r : Rep K (fz S H) w v) : Sim K (ρ.set i (some w)) (σ.set i (some v)) S H := by
  refine ⟨fun j u h => ?_, by rw [List.length_set, List.length_set]; exact s.len, s.sto⟩
  by_cases e : i = j
  · subst e
    by_cases hl : i < ρ.length
    · rw [List.getElem?_set_self hl] at h
      cases h
      exact ⟨v, List.getElem?_set_self (s.len ▸ hl), r⟩
    · rw [List.getElem?_eq_none (by rw [List.length_set]; omega)] at h
      cases h
  · rw [List.getElem?_set_ne e] at h
    obtain ⟨v', h1, h2⟩ := s.var j u h
    exact ⟨v', by rw [List.getElem?_set_ne e]; exact h1, h2⟩
end

/-! ### a hidden thing is changed -/
section
variable {K : KH} {D : Addr} {o : HO}
mutual
theorem Rep.hidden {F F' : Hp} (hD : K.h D = true) (e : ∀ b, b ≠ D → F' b = F b) : ∀ {w : W} {v : V}, Rep K F w v → Rep K F' w v
  | _, _, .non => .non
  | _, _, .bl b => .bl b
  | _, _, .int i => .int i
  | _, _, .str x => .str x
  | _, _, .ref a => .ref a
  | _, _, .tup (a := a) n h r => .tup n (by rw [e a (fun z => by rw [z, hD] at n; cases n)]; exact h) (RepL.hidden hD e r)
  | _, _, .klst h r => .klst h (RepL.hidden hD e r)
  | _, _, .lst (a := a) n h r => .lst n (by
      have ha := e a (fun z => by rw [z, hD] at n; cases n)
      rcases h with h | ⟨o, h⟩
      · exact .inl (by rw [ha]; exact h)
      · exact .inr ⟨o, by rw [ha]; exact h⟩) (RepL.hidden hD e r)
theorem RepL.hidden {F F' : Hp} (hD : K.h D = true) (e : ∀ b, b ≠ D → F' b = F b) : ∀ {ws : List W} {vs : List V}, RepL K F ws vs → RepL K F' ws vs
  | _, _, .nil => .nil
  | _, _, .cons h r => .cons (Rep.hidden hD e h) (RepL.hidden hD e r)
end
theorem KVR.hidden {κ : Type} {F F' : Hp} (hD : K.h D = true) (e : ∀ b, b ≠ D → F' b = F b) {kvs : List (κ × W)} {kv' : List (κ × V)} (r : KVR K F kvs kv') : KVR K F' kvs kv' :=
  Paired.mapP r fun _ _ z => ⟨z.1, z.2.hidden hD e⟩
theorem ObR.hidden {F F' H H' : Hp} {a : Addr} (hD : K.h D = true) (e : ∀ b, b ≠ D → F' b = F b) : ∀ {o : Ob} {u : HO}, ObR K F H a o u → ObR K F' H' a o u
  | .lst _, _, ⟨vs, h, r⟩ => ⟨vs, h, r.hidden hD e⟩
  | .dk _, _, ⟨kv', h, r⟩ => ⟨kv', h, r.hidden hD e⟩
  | .dt _, _, ⟨kv', h, r⟩ => ⟨kv', h, r.hidden hD e⟩
  | .ins _ _, _, ⟨dx, fs', h, r⟩ => ⟨dx, fs', h, r.hidden hD e⟩
  | .lk o, _, ⟨od, u', h, r⟩ => ⟨od, u', h, ObR.hidden (o := o) hD e r⟩
theorem fz_hid {S : Sto} {H : Hp} : ∀ b, b ≠ D → fz S (upd H D o) b = fz S H b := fun b hb => by
  unfold fz
  rw [upd_ne hb]
theorem StoOk.hidden {S : Sto} {H : Hp} (k : StoOk K S H) (hD : K.h D = true) : StoOk K S (upd H D o) := ⟨fun b u e => by
  obtain ⟨v, hv, q⟩ := k.at' b u e
  have hb : b ≠ D := fun z => by
    subst z
    rw [(k.hid b hD).1] at e; cases e
  exact ⟨v, by rw [upd_ne hb]; exact hv, q.hidden hD fz_hid⟩, fun a h => by
    obtain ⟨h1, u, h2⟩ := k.hid a h
    by_cases z : a = D
    · exact ⟨h1, o, by rw [z, upd_same]⟩
    · exact ⟨h1, u, by rw [upd_ne z]; exact h2⟩⟩
theorem Sim.hidden {ρ : Env} {σ : L2.St} {S : Sto} {H : Hp} (s : Sim K ρ σ S H) (hD : K.h D = true) : Sim K ρ σ S (upd H D o) :=
  ⟨fun i w h => let ⟨v, h1, h2⟩ := s.var i w h; ⟨v, h1, h2.hidden hD fz_hid⟩, s.len, s.sto.hidden hD⟩
/-- one more is hidden: a new thing that nothing speaks of -/
def KH.more (K : KH) (D : Addr) : KH := ⟨K.K, fun b => K.h b || decide (b = D)⟩
theorem KH.more_at : (K.more D).h D = true := by unfold KH.more; simp
theorem KH.more_ne {b : Addr} (h : K.h b = false) (hb : b ≠ D) : (K.more D).h b = false := by unfold KH.more; simp [h, hb]
theorem KH.of_more {b : Addr} (h : (K.more D).h b = false) : K.h b = false := by
  unfold KH.more at h
  simp at h
  exact h.1
mutual
theorem Rep.hide {F F' : Hp} (hD : F D = none) (e : Same F F') : ∀ {w : W} {v : V}, Rep K F w v → Rep (K.more D) F' w v
  | _, _, .non => .non
  | _, _, .bl b => .bl b
  | _, _, .int i => .int i
  | _, _, .str x => .str x
  | _, _, .ref a => .ref a
  | _, _, .tup n h r => .tup (KH.more_ne n (ne_of_none h hD)) (e _ _ h) (RepL.hide hD e r)
  | _, _, .klst h r => .klst h (RepL.hide hD e r)
  | _, _, .lst (a := a) n h r => .lst (KH.more_ne n (by
      rcases h with h | ⟨o, h⟩
      · exact ne_of_none h hD
      · exact ne_of_none h hD)) (same_rd e h) (RepL.hide hD e r)
theorem RepL.hide {F F' : Hp} (hD : F D = none) (e : Same F F') : ∀ {ws : List W} {vs : List V}, RepL K F ws vs → RepL (K.more D) F' ws vs
  | _, _, .nil => .nil
  | _, _, .cons h r => .cons (Rep.hide hD e h) (RepL.hide hD e r)
end
mutual
theorem Rep.unhide {F : Hp} : ∀ {w : W} {v : V}, Rep (K.more D) F w v → Rep K F w v
  | _, _, .non => .non
  | _, _, .bl b => .bl b
  | _, _, .int i => .int i
  | _, _, .str x => .str x
  | _, _, .ref a => .ref a
  | _, _, .tup n h r => .tup (KH.of_more n) h (RepL.unhide r)
  | _, _, .lst n h r => .lst (KH.of_more n) h (RepL.unhide r)
  | _, _, .klst h r => .klst h (RepL.unhide r)
theorem RepL.unhide {F : Hp} : ∀ {ws : List W} {vs : List V}, RepL (K.more D) F ws vs → RepL K F ws vs
  | _, _, .nil => .nil
  | _, _, .cons h r => .cons (Rep.unhide h) (RepL.unhide r)
end
theorem KVR.hide {κ : Type} {F F' : Hp} (hD : F D = none) (e : Same F F') {kvs : List (κ × W)} {kv' : List (κ × V)} (r : KVR K F kvs kv') : KVR (K.more D) F' kvs kv' :=
  Paired.mapP r fun _ _ z => ⟨z.1, z.2.hide hD e⟩
theorem ObR.hide {F F' H H' : Hp} {a : Addr} (hD : F D = none) (e : Same F F') : ∀ {o : Ob} {u : HO}, ObR K F H a o u → ObR (K.more D) F' H' a o u
  | .lst _, _, ⟨vs, h, r⟩ => ⟨vs, h, r.hide hD e⟩
  | .dk _, _, ⟨kv', h, r⟩ => ⟨kv', h, r.hide hD e⟩
  | .dt _, _, ⟨kv', h, r⟩ => ⟨kv', h, r.hide hD e⟩
  | .ins _ _, _, ⟨dx, fs', h, r⟩ => ⟨dx, fs', h, r.hide hD e⟩
  | .lk o, _, ⟨od, u', h, r⟩ => ⟨od, u', h, ObR.hide (o := o) hD e r⟩
theorem KVR.unhide {κ : Type} {F : Hp} {kvs : List (κ × W)} {kv' : List (κ × V)} (r : KVR (K.more D) F kvs kv') : KVR K F kvs kv' :=
  Paired.mapP r fun _ _ z => ⟨z.1, z.2.unhide⟩
theorem ObR.unhide {F H : Hp} {a : Addr} : ∀ {o : Ob} {u : HO}, ObR (K.more D) F H a o u → ObR K F H a o u
  | .lst _, _, ⟨vs, h, r⟩ => ⟨vs, h, r.unhide⟩
  | .dk _, _, ⟨kv', h, r⟩ => ⟨kv', h, r.unhide⟩
  | .dt _, _, ⟨kv', h, r⟩ => ⟨kv', h, r.unhide⟩
  | .ins _ _, _, ⟨dx, fs', h, r⟩ => ⟨dx, fs', h, r.unhide⟩
  | .lk o, _, ⟨od, u', h, r⟩ => ⟨od, u', h, ObR.unhide (o := o) r⟩
theorem StoOk.hide {S : Sto} {H : Hp} (k : StoOk K S H) (hD : H D = none) : StoOk (K.more D) S (upd H D o) := by
  have hF : fz S H D = none := by
    unfold fz
    split <;> first | rfl | exact hD
  refine ⟨fun b u e => ?_, fun a h => ?_⟩
  · obtain ⟨v, hv, q⟩ := k.at' b u e
    exact ⟨v, by rw [upd_ne (ne_of_none hv hD)]; exact hv, q.hide hF (same_new k hD)⟩
  · by_cases z : a = D
    · subst z
      exact ⟨k.free hD, o, upd_same⟩
    · have h' : K.h a = true := by
        unfold KH.more at h
        simpa [z] using h
      obtain ⟨h1, u, h2⟩ := k.hid a h'
      exact ⟨h1, u, by rw [upd_ne z]; exact h2⟩
theorem Sim.hide {ρ : Env} {σ : L2.St} {S : Sto} {H : Hp} (s : Sim K ρ σ S H) (hD : H D = none) : Sim (K.more D) ρ σ S (upd H D o) := by
  have hF : fz S H D = none := by
    unfold fz
    split <;> first | rfl | exact hD
  exact ⟨fun i w h => let ⟨v, h1, h2⟩ := s.var i w h; ⟨v, h1, h2.hide hF (same_new s.sto hD)⟩, s.len, s.sto.hide hD⟩
theorem StoOk.unhide {S : Sto} {H : Hp} (k : StoOk (K.more D) S H) : StoOk K S H := ⟨fun b u e => by
  obtain ⟨v, hv, q⟩ := k.at' b u e
  exact ⟨v, hv, q.unhide⟩, fun a h => k.hid a (by unfold KH.more; simp [h])⟩
theorem Sim.unhide {ρ : Env} {σ : L2.St} {S : Sto} {H : Hp} (s : Sim (K.more D) ρ σ S H) : Sim K ρ σ S H :=
  ⟨fun i w h => let ⟨v, h1, h2⟩ := s.var i w h; ⟨v, h1, h2.unhide⟩, s.len, s.sto.unhide⟩
mutual
/-- the hidden ones matter only where something stands -/
theorem Rep.agree {K : KH} {h' : Addr → Bool} {F : Hp} (h : ∀ b o, F b = some o → h' b = K.h b) : ∀ {w : W} {v : V}, Rep K F w v → Rep ⟨K.K, h'⟩ F w v
  | _, _, .non => .non
  | _, _, .bl b => .bl b
  | _, _, .int i => .int i
  | _, _, .str x => .str x
  | _, _, .ref a => .ref a
  | _, _, .tup n e r => .tup (by show h' _ = false; rw [h _ _ e]; exact n) e (RepL.agree h r)
  | _, _, .klst q r => .klst q (RepL.agree h r)
  | _, _, .lst n e r => .lst (by
      rcases e with e | ⟨o, e⟩
      · show h' _ = false; rw [h _ _ e]; exact n
      · show h' _ = false; rw [h _ _ e]; exact n) e (RepL.agree h r)
theorem RepL.agree {K : KH} {h' : Addr → Bool} {F : Hp} (h : ∀ b o, F b = some o → h' b = K.h b) : ∀ {ws : List W} {vs : List V}, RepL K F ws vs → RepL ⟨K.K, h'⟩ F ws vs
  | _, _, .nil => .nil
  | _, _, .cons e r => .cons (Rep.agree h e) (RepL.agree h r)
end
/-- a hidden list becomes a cell -/
theorem Sim.cell {ρ : Env} {σ : L2.St} {S : Sto} {H : Hp} {ws : List W} {vs : List V} (s : Sim (K.more D) ρ σ S H) (nD : K.h D = false) (h : H D = some (.lst vs)) (r : RepL (K.more D) (fz S H) ws vs) : Sim K ρ σ (sup S D (.lst ws)) H := by
  have hS := (s.sto.hid D KH.more_at).1
  have e : ∀ b, b ≠ D → fz (sup S D (.lst ws)) H b = fz S H b := fun b hb => by
    unfold fz
    rw [sup_ne hb]
  refine ⟨fun i w q => ?_, s.len, ⟨fun b u q => ?_, fun a q => ?_⟩⟩
  · obtain ⟨v, h1, h2⟩ := s.var i w q
    exact ⟨v, h1, (h2.hidden KH.more_at e).unhide⟩
  · by_cases hb : b = D
    · subst hb
      rw [sup_same] at q; cases q
      exact ⟨_, h, vs, rfl, (r.hidden KH.more_at e).unhide⟩
    · rw [sup_ne hb] at q
      obtain ⟨v, hv, z⟩ := s.sto.at' b u q
      exact ⟨v, hv, (z.hidden KH.more_at e).unhide⟩
  · obtain ⟨h1, u, h2⟩ := s.sto.hid a (by unfold KH.more; simp [q])
    by_cases z : a = D
    · subst z
      rw [nD] at q; cases q
    · exact ⟨by rw [sup_ne z]; exact h1, u, h2⟩
end
end MP

set_option Elab.async false
set_option linter.all false
set_option maxRecDepth 100000
set_option maxHeartbeats 4000000
/-! MP2: the core language and what it asks (wp), over plain values. -/
namespace MP
open PySem PySem.Spec PyProof.Rows L2

structure Exn where
  cls : Addr
  nm : Option W
abbrev WK := W → Sto → Prop
abbrev XC := Exn → Sto → Prop
abbrev WE := Env → Sto → WK → XC → Prop

/-! ### reading values -/
def obL : Ob → Option (List W)
  | .lst ws => some ws
  | .lk (.lst ws) => some ws
  | _ => none
def rdL (S : Sto) : W → Option (List W)
  | .lst ws => some ws
  | .ref a => (S a).bind obL
  | _ => none
/-- a list or a tuple -/
def rdQ (S : Sto) : W → Option (List W)
  | .tup ws => some ws
  | w => rdL S w
def obK : Ob → Option (List (Key × W))
  | .dk kvs => some kvs
  | .lk (.dk kvs) => some kvs
  | _ => none
def obT : Ob → Option (List (List Key × W))
  | .dt kvs => some kvs
  | .lk (.dt kvs) => some kvs
  | _ => none
def keyW : W → Option Key
  | .int i => some (.inl i)
  | .str x => some (.inr x)
  | _ => none
def keysW : List W → Option (List Key)
  | [] => some []
  | w :: ws => (keyW w).bind fun k => (keysW ws).map (k :: ·)
def wKey : Key → W
  | .inl i => .int i
  | .inr x => .str x
section
variable {κ : Type} [DecidableEq κ]
def getK (kvs : List (κ × W)) (k : κ) : Option W := (kvs.find? fun kv => decide (kv.1 = k)).map (·.2)
def setK (kvs : List (κ × W)) (k : κ) (v : W) : List (κ × W) :=
  if (kvs.any fun kv => decide (kv.1 = k)) = true then kvs.map (fun kv => if kv.1 = k then (kv.1, v) else kv) else kvs ++ [(k, v)]
def delK (kvs : List (κ × W)) (k : κ) : List (κ × W) := kvs.filter fun kv => decide (kv.1 ≠ k)
end
/-- what a dict's cell holds at a key: none where the key doesn't fit the dict -/
def rdD (S : Sto) (d k : W) : Option (Option W) :=
  match d with
  | .ref a => (S a).bind fun o =>
    match obK o, obT o, k with
    | some kvs, _, k => (keyW k).map fun k => getK kvs k
    | none, some kvs, .tup ks => (keysW ks).map fun k => getK kvs k
    | _, _, _ => none
  | _ => none

/-! ### truth, equality -/
def truW (S : Sto) : W → Option Bool
  | .non => some false
  | .bl b => some b
  | .int i => some (i != 0)
  | .str x => if x.length ≤ sizeLine then some ((x.length : Int) != 0) else none
  | .tup ws => some !ws.isEmpty
  | .lst ws => some !ws.isEmpty
  | .ref a => (S a).bind fun o => match o with
    | .lst ws => some !ws.isEmpty
    | .dk kvs => some !kvs.isEmpty
    | _ => none
mutual
/-- plain data: no cell within -/
def datW : W → PyData
  | .non => .none
  | .bl b => .bool b
  | .int i => .int i
  | .str x => .str x
  | .tup ws => .tuple (datL ws)
  | .lst ws => .list (datL ws)
  | .ref _ => .none
def datL : List W → List PyData
  | [] => []
  | w :: ws => datW w :: datL ws
end
mutual
/-- a value as data, cells of lists read -/
inductive Vw (S : Sto) : W → PyData → Prop
  | non : Vw S .non .none
  | bl (b : Bool) : Vw S (.bl b) (.bool b)
  | int (i : Int) : Vw S (.int i) (.int i)
  | str (x : Str) : Vw S (.str x) (.str x)
  | tup {ws : List W} {ds : List PyData} : VwL S ws ds → Vw S (.tup ws) (.tuple ds)
  | lst {ws : List W} {ds : List PyData} : VwL S ws ds → Vw S (.lst ws) (.list ds)
  | ref {a : Addr} {ws : List W} {ds : List PyData} : (S a).bind obL = some ws → VwL S ws ds → Vw S (.ref a) (.list ds)
inductive VwL (S : Sto) : List W → List PyData → Prop
  | nil : VwL S [] []
  | cons {w : W} {ws : List W} {d : PyData} {ds : List PyData} : Vw S w d → VwL S ws ds → VwL S (w :: ws) (d :: ds)
end
/-- texts, numbers, truths, None -/
def flatW : W → Bool
  | .non => true
  | .bl _ => true
  | .int _ => true
  | .str _ => true
  | _ => false

/-- a new list: a cell, or frozen -/
def mkL (live : Bool) (ws : List W) (S : Sto) (Q : WK) : Prop :=
  if live = true then ∀ p, S p = none → Q (.ref p) (sup S p (.lst ws)) else Q (.lst ws) S

/-! ### operators by value -/
inductive Bop where
  | add | sub | mul | fdiv | mod | pow
  deriving DecidableEq
def Bop.op : Bop → Operator
  | .add => .Add | .sub => .Sub | .mul => .Mult | .fdiv => .FloorDiv | .mod => .Mod | .pow => .Pow
def bopW (live : Bool) : Bop → W → W → Sto → WK → Prop
  | .add, .int i, .int j, S, Q => Q (.int (i + j)) S
  | .add, .str x, .str y, S, Q => x.length + y.length ≤ sizeLine ∧ Q (.str (x ++ y)) S
  | .add, .tup xs, .tup ys, S, Q => xs ≠ [] ∧ xs.length + ys.length ≤ sizeLine ∧ Q (.tup (xs ++ ys)) S
  | .add, x, y, S, Q => ∃ xs ys, rdL S x = some xs ∧ rdL S y = some ys ∧ xs.length + ys.length ≤ sizeLine ∧ mkL live (xs ++ ys) S Q
  | .sub, .int i, .int j, S, Q => Q (.int (i - j)) S
  | .mul, .int i, .int j, S, Q => CMulW i j ∧ Q (.int (i * j)) S
  | .mul, x, .int k, S, Q => ∃ xs, rdL S x = some xs ∧ -(2 ^ 63) ≤ k ∧ k < 2 ^ 63 ∧ xs.length * k.toNat ≤ sizeLine ∧ mkL live (List.replicate k.toNat xs).flatten S Q
  | .fdiv, .int i, .int j, S, Q => CDivW i j ∧ Q (.int (i / j)) S
  | .mod, .int i, .int j, S, Q => 0 < j ∧ Q (.int (i % j)) S
  | .pow, .int i, .int j, S, Q => CPow i j ∧ Q (.int (i ^ j.toNat)) S
  | _, _, _, _, _ => False
/-- x is None, True, False -/
def isN : W → Bool
  | .non => true
  | _ => false
def isW : W → W → Option Bool
  | x, .non => some (isN x)
  | .bl a, .bl b => some (decide (a = b))
  | _, _ => none
def eqWk (x y : W) (S : Sto) (Q : Bool → Prop) : Prop :=
  ∃ d e, Vw S x d ∧ Vw S y e ∧ SeqAt.shaped d = true ∧ SeqAt.shaped e = true ∧ Q (PyData.eqv d e)
/-- x in y -/
def inWk (x y : W) (S : Sto) (Q : Bool → Prop) : Prop :=
  match x, y with
  | .str i, .str j => Q (!(Builtin.Str.occurrences j i 0 j.length 1).isEmpty)
  | x, .tup ws => flatW x = true ∧ ws.all flatW = true ∧ ∃ d ds, Vw S x d ∧ VwL S ws ds ∧ Q (ds.any fun z => PyData.eqv z d)
  | x, y => (∃ ws d ds, rdL S y = some ws ∧ Vw S x d ∧ VwL S ws ds ∧ SeqAt.shaped d = true ∧ SeqAt.shaped (.list ds) = true ∧ Q (ds.any fun z => PyData.eqv z d)) ∨
      ∃ o, rdD S y x = some o ∧ Q o.isSome
/-- the order of alike data: d < e, e < d -/
def ordWk (x y : W) (S : Sto) (Q : Bool → Bool → Prop) : Prop :=
  ∃ d e, Vw S x d ∧ Vw S y e ∧ PySem.W.alike d e = true ∧ d ≠ .none ∧ SeqAt.shaped d = true ∧ SeqAt.shaped e = true ∧ Q (PySem.W.dataLt d e) (PySem.W.dataLt e d)
def cmpW : CmpOp → W → W → Sto → (Bool → Prop) → Prop
  | .Lt, .int i, .int j, _, Q => Q (decide (i < j))
  | .LtE, .int i, .int j, _, Q => Q (decide (i ≤ j))
  | .Gt, .int i, .int j, _, Q => Q (decide (j < i))
  | .GtE, .int i, .int j, _, Q => Q (decide (j ≤ i))
  | .Lt, x, y, S, Q => ordWk x y S fun l _ => Q l
  | .LtE, x, y, S, Q => ordWk x y S fun _ g => Q !g
  | .Gt, x, y, S, Q => ordWk x y S fun _ g => Q g
  | .GtE, x, y, S, Q => ordWk x y S fun l _ => Q !l
  | .Eq, x, y, S, Q => eqWk x y S Q
  | .NotEq, x, y, S, Q => eqWk x y S fun b => Q !b
  | .In, x, y, S, Q => inWk x y S Q
  | .NotIn, x, y, S, Q => inWk x y S fun b => Q !b
  | .Is, x, y, _, Q => ∃ b, isW x y = some b ∧ Q b
  | .IsNot, x, y, _, Q => ∃ b, isW x y = some b ∧ Q !b
/-- x[i] -/
def idxW (x i : W) (S : Sto) (Q : WK) : Prop :=
  match x, i with
  | .str z, .int k => z.length ≤ sizeLine ∧ ∃ c, atI z.cps.toList k = some c ∧ Q (.str ⟨#[c]⟩) S
  | .tup ws, .int k => ∃ w, atI ws k = some w ∧ Q w S
  | .lst ws, .int k => ∃ w, atI ws k = some w ∧ Q w S
  | .ref a, i => (∃ ws k w, (S a).bind obL = some ws ∧ i = .int k ∧ atI ws k = some w ∧ Q w S) ∨ ∃ w, rdD S (.ref a) i = some (some w) ∧ Q w S
  | _, _ => False
def cutW (xs : List W) (lo hi : Option Int) : List W := (xs.drop (HT.sIx xs.length 0 lo)).take (HT.sIx xs.length xs.length hi - HT.sIx xs.length 0 lo)
/-- x[lo:hi] -/
def slcW (live : Bool) (x : W) (lo hi : Option Int) (S : Sto) (Q : WK) : Prop :=
  match x with
  | .str z => z.length ≤ sizeLine ∧ Q (.str (cutS z lo hi)) S
  | .tup ws => Q (.tup (cutW ws lo hi)) S
  | x => ∃ ws, rdL S x = some ws ∧ mkL live (cutW ws lo hi) S Q
/-- x[i] = v -/
def setW (x i v : W) (S : Sto) (Q : Sto → Prop) : Prop :=
  ∃ a, x = .ref a ∧
    ((∃ ws k j, S a = some (.lst ws) ∧ i = .int k ∧ ixN ws.length k = some j ∧ Q (sup S a (.lst (ws.set j v)))) ∨
     (∃ kvs k, S a = some (.dk kvs) ∧ keyW i = some k ∧ kvs.length < sizeLine ∧ Q (sup S a (.dk (setK kvs k v)))) ∨
     (∃ kvs ks k, S a = some (.dt kvs) ∧ i = .tup ks ∧ keysW ks = some k ∧ kvs.length < sizeLine ∧ Q (sup S a (.dt (setK kvs k v)))))

/-! ### built-ins by value -/
inductive Blt where
  | len | abs | min2 | max2 | minL | maxL | maxD | sum | all | any | int | str | list | tuple | sortD
  deriving DecidableEq
def intsW : List W → Option (List Int)
  | [] => some []
  | .int i :: ws => (intsW ws).map (i :: ·)
  | _ :: _ => none
def blsW : List W → Option (List Bool)
  | [] => some []
  | .bl i :: ws => (blsW ws).map (i :: ·)
  | _ :: _ => none
def strsW : List W → Option (List Str)
  | [] => some []
  | .str i :: ws => (strsW ws).map (i :: ·)
  | _ :: _ => none
def dLe (a b : W × PyData) : Bool := PySem.W.dataLe false (fun p : W × PyData => p.2) a b
/-- ws in order of ds -/
def sortW (ws : List W) (ds : List PyData) : List W := ((ws.zip ds).mergeSort dLe).map (·.1)
def bltW (live : Bool) : Blt → List W → Sto → WK → Prop
  | .len, [.str x], S, Q => x.length ≤ sizeLine ∧ Q (.int x.length) S
  | .len, [x], S, Q => (∃ ws, rdQ S x = some ws ∧ Q (.int ws.length) S) ∨ (∃ a kvs, x = .ref a ∧ (S a).bind obK = some kvs ∧ Q (.int kvs.length) S) ∨ ∃ a kvs, x = .ref a ∧ (S a).bind obT = some kvs ∧ Q (.int kvs.length) S
  | .abs, [.int i], S, Q => Q (.int (if i < 0 then -i else i)) S
  | .min2, [.int i, .int j], S, Q => Q (.int (if j < i then j else i)) S
  | .max2, [.int i, .int j], S, Q => Q (.int (if j > i then j else i)) S
  | .minL, [x], S, Q => ∃ ws ns, rdL S x = some ws ∧ intsW ws = some ns ∧ 0 < ns.length ∧ ∀ m, m ∈ ns → (∀ y, y ∈ ns → m ≤ y) → Q (.int m) S
  | .maxL, [x], S, Q => ∃ ws ns, rdL S x = some ws ∧ intsW ws = some ns ∧ 0 < ns.length ∧ ∀ m, m ∈ ns → (∀ y, y ∈ ns → y ≤ m) → Q (.int m) S
  | .maxD, [x], S, Q => ∃ ws d ds, rdL S x = some ws ∧ VwL S ws (d :: ds) ∧ PySem.W.AlikeAll (d :: ds) ∧ SeqAt.shaped (.list (d :: ds)) = true ∧ ∀ (i : Nat) w, ws[i]? = some w → (d :: ds)[i]? = some (PySem.W.maxD d ds) → Q w S
  | .sum, [x], S, Q => ∃ ws ns, rdL S x = some ws ∧ intsW ws = some ns ∧ Q (.int ns.sum) S
  | .all, [x], S, Q => ∃ ws bs, rdL S x = some ws ∧ blsW ws = some bs ∧ Q (.bl (bs.all id)) S
  | .any, [x], S, Q => ∃ ws bs, rdL S x = some ws ∧ blsW ws = some bs ∧ Q (.bl (bs.any id)) S
  | .int, [.int i], S, Q => Q (.int i) S
  | .int, [.bl b], S, Q => Q (.int (if b then 1 else 0)) S
  | .str, [.int i], S, Q => i.natAbs.log2 < 1920 ∧ Q (.str (toString i)) S
  | .list, [x], S, Q => ∃ ws, rdQ S x = some ws ∧ mkL live ws S Q
  | .tuple, [x], S, Q => ∃ ws, rdQ S x = some ws ∧ Q (.tup ws) S
  | .sortD, [x], S, Q => ∃ ws ds, rdL S x = some ws ∧ VwL S ws ds ∧ PySem.W.AllAlike ds ∧ PySem.W.Sortable ds ∧ SeqAt.shaped (.list ds) = true ∧ mkL live (sortW ws ds) S Q
  | _, _, _, _ => False
def Blt.nm : Blt → Str
  | .len => "len" | .abs => "abs" | .min2 => "min" | .max2 => "max" | .minL => "min" | .maxL => "max" | .maxD => "max" | .sum => "sum" | .all => "all" | .any => "any"
  | .int => "int" | .str => "str" | .list => "list" | .tuple => "tuple" | .sortD => "sorted"

/-! ### methods of lists, dicts, texts by value -/
inductive Mth where
  | append | pop | popAt | extend | clear | join
  deriving DecidableEq
def Mth.T : Mth → String
  | .append => "list" | .pop => "list" | .popAt => "list" | .extend => "list" | .clear => "list" | .join => "str"
/-- what a method's receiver is, ahead of the arguments -/
def rcvW (m : Mth) (x : W) (S : Sto) : Prop :=
  match m.T, x with
  | "str", .str _ => True
  | "list", .ref a => ∃ ws, S a = some (.lst ws)
  | _, _ => False
def mthW : Mth → W → List W → Sto → WK → Prop
  | .append, .ref a, [y], S, Q => ∃ ws, S a = some (.lst ws) ∧ ws.length < sizeLine ∧ Q .non (sup S a (.lst (ws ++ [y])))
  | .pop, .ref a, [], S, Q => ∃ ws w, S a = some (.lst ws) ∧ ws[ws.length - 1]? = some w ∧ Q w (sup S a (.lst ws.dropLast))
  | .popAt, .ref a, [.int i], S, Q => ∃ ws k w, S a = some (.lst ws) ∧ -(2 ^ 63) ≤ i ∧ i < 2 ^ 63 ∧ seqIndex? i ws.length = some k ∧ ws[k]? = some w ∧ Q w (sup S a (.lst (ws.eraseIdx k)))
  | .clear, .ref a, [], S, Q => ∃ ws, S a = some (.lst ws) ∧ Q .non (sup S a (.lst []))
  | .extend, .ref a, [y], S, Q => ∃ ws zs, S a = some (.lst ws) ∧ rdL S y = some zs ∧ ws.length + zs.length ≤ sizeLine ∧ Q .non (sup S a (.lst (ws ++ zs)))
  | .join, .str x, [y], S, Q => ∃ ws ss, rdQ S y = some ws ∧ strsW ws = some ss ∧ (ss.map Str.length).sum + ss.length * x.length ≤ 16777216 ∧ Q (.str (Txt.join x ss)) S
  | _, _, _, _, _ => False

/-- kinds of value, as isinstance asks -/
inductive Knd where
  | non | bl | int | str | lst | tup | dct
  deriving DecidableEq
def Knd.nm : Knd → String
  | .non => "NoneType" | .bl => "bool" | .int => "int" | .str => "str" | .lst => "list" | .tup => "tuple" | .dct => "dict"
def kndO : Ob → Option Knd
  | .lst _ => some .lst
  | .dk _ => some .dct
  | .dt _ => some .dct
  | .lk (.lst _) => some .lst
  | .lk (.dk _) => some .dct
  | _ => none
def kndW (S : Sto) : W → Option Knd
  | .non => some .non
  | .bl _ => some .bl
  | .int _ => some .int
  | .str _ => some .str
  | .tup _ => some .tup
  | .lst _ => some .lst
  | .ref a => (S a).bind kndO
def subK (k t : Knd) : Bool := decide (k = t) || (decide (k = .bl) && decide (t = .int))
/-! ### the core language -/
inductive CE where
  /-- lists of expressions (arguments, items, targets) -/
  | nil | cons (a as : CE)
  | var (i : Nat)
  | cst (c : Const)
  | glb (x : Str) (c : Const)
  | bin (live : Bool) (op : Bop) (a b : CE)
  | neg (a : CE) | nt (a : CE)
  | cmp (op : CmpOp) (a b : CE) | chain (o1 o2 : CmpOp) (a b c : CE)
  /-- a list of two or more -/
  | an (as : CE) | or (as : CE)
  | ife (t a b : CE)
  | call (f : Nat) (as : CE)
  | blt (b : Blt) (live : Bool) (as : CE)
  | mth (m : Mth) (o as : CE)
  | idx (a b : CE)
  /-- nil: a part left out -/
  | slc (live : Bool) (a lo hi : CE)
  | rev (live : Bool) (a : CE)
  | tup (as : CE) | lst (live : Bool) (as : CE)
  /-- {}: tk, to have tuples for keys; keys and values by turns -/
  | dnew (tk : Bool) | dct (as : CE)
  /-- cond nil: none -/
  | lc (live : Bool) (own : List (Str × Nat)) (tg it cond elt : CE)
  | frz (a : CE)
  /-- list(range(a)) -/
  | lrg (live : Bool) (a : CE)
  | isi (a : CE) (t : Knd)
  /-- targets -/
  | tnm (i : Nat) | ttup (ts : CE) | tsub (o i : CE)
  /-- what is walked -/
  | iseq (a : CE) | irng1 (a : CE) | irng2 (a b : CE) | irng3 (a b c : CE) | izip (a b : CE) | ienm (a : CE)

def cstW : Const → Option W
  | .none => some .non
  | .bool b => some (.bl b)
  | .int i => some (.int i)
  | .str x => some (.str x)
  | _ => none
def wipeW (ρ : Env) : List Nat → Env
  | [] => ρ
  | v :: vs => (wipeW ρ vs).set v none
def sgnW (x : Str) : List W := x.cps.toList.map fun c => W.str ⟨#[c]⟩
/-- what is walked: a list, a tuple, a text -/
def rdI (S : Sto) : W → Option (List W)
  | .str x => some (sgnW x)
  | w => rdQ S w
/-- where a walked list stands: a cell has to stay as it is -/
def srcW (w : W) (all : List W) (S : Sto) : Prop := rdI S w = some all
def wpLc (src : Sto → Prop) (g : W → Env → Sto → (Env → Sto → Prop) → Prop) (t : Env → Sto → (Bool → Sto → Prop) → Prop) (e : Env → Sto → WK → Prop) (ρ : Env) :
    List W → List W → Sto → (List W → Sto → Prop) → Prop
  | [], acc, S, Q => src S ∧ Q acc S
  | x :: xs, acc, S, Q => src S ∧ g x ρ S fun ρ1 S1 => t ρ1 S1 fun b S2 =>
      if b = true then e ρ1 S2 fun y S3 => acc.length < sizeLine ∧ wpLc src g t e ρ xs (acc ++ [y]) S3 Q else wpLc src g t e ρ xs acc S2 Q
def rngW (lo : Int) (n : Nat) : List W := (List.range n).map fun (i : Nat) => W.int (lo + i)
def enmW (n : Nat) : List W → List W
  | [] => []
  | w :: ws => .tup [.int n, w] :: enmW (n + 1) ws
def zipW : List W → List W → List W
  | x :: xs, y :: ys => .tup [x, y] :: zipW xs ys
  | _, _ => []
abbrev XN : XC := fun _ _ => False
def irngW : List W → Sto → ((Sto → Prop) → List W → Sto → Prop) → Prop
  | [.int n], S, Q => -(2 ^ 62) ≤ n ∧ n < 2 ^ 62 ∧ Q (fun _ => True) (rngW 0 n.toNat) S
  | [.int i, .int j], S, Q => (-(2 ^ 62) ≤ i ∧ i < 2 ^ 62 ∧ -(2 ^ 62) ≤ j ∧ j < 2 ^ 62) ∧ Q (fun _ => True) (rngW i (j - i).toNat) S
  | _, _, _ => False
/-- range with a step: n items -/
def irng3W : List W → Sto → ((Sto → Prop) → List W → Sto → Prop) → Prop
  | [.int i, .int j, .int c], S, Q => ∃ n, RgC i j c n ∧ Q (fun _ => True) ((List.range n).map fun (k : Nat) => W.int (i + k * c)) S
  | _, _, _ => False
/-- dict displays: pairs put one after another -/
def putsK : List (Key × W) → List W → Option (List (Key × W))
  | acc, [] => some acc
  | acc, k :: v :: ws => (keyW k).bind fun k => putsK (setK acc k v) ws
  | _, _ => none
def partW : W → Option (Option Int)
  | .int i => some (some i)
  | _ => none


/-- what a piece of the core language asks: as an expression, a test, a slice's part, a list of expressions (an, or), a target, what is walked -/
structure RD where
  e : WE
  t : Env → Sto → (Bool → Sto → Prop) → XC → Prop
  o : Env → Sto → (Option Int → Sto → Prop) → XC → Prop
  es : Env → Sto → (List W → Sto → Prop) → XC → Prop := fun _ _ _ _ => False
  an : WE := fun _ _ _ _ => False
  or : WE := fun _ _ _ _ => False
  ant : Env → Sto → (Bool → Sto → Prop) → XC → Prop := fun _ _ _ _ => False
  ort : Env → Sto → (Bool → Sto → Prop) → XC → Prop := fun _ _ _ _ => False
  c : Env → Sto → (Bool → Sto → Prop) → Prop := fun _ _ _ => False
  g : W → Env → Sto → (Env → Sto → Prop) → Prop := fun _ _ _ _ => False
  gs : List W → Env → Sto → (Env → Sto → Prop) → Prop := fun _ _ _ _ => False
  i : Env → Sto → ((Sto → Prop) → List W → Sto → Prop) → XC → Prop := fun _ _ _ _ => False
  /-- is there something behind (lists) -/
  more : Bool := false
def truK (Q : Bool → Sto → Prop) : WK := fun x S => ∃ b, truW S x = some b ∧ Q b S
def intK (Q : Option Int → Sto → Prop) : WK := fun x S => ∃ i, x = .int i ∧ Q (some i) S
/-- an expression whose truth is asked plainly -/
def rdE (e : WE) : RD where
  e := e
  t := fun ρ S Q X => e ρ S (truK Q) X
  o := fun ρ S Q X => e ρ S (intK Q) X
/-- an expression that has a test of its own -/
def rdT (e : WE) (t : Env → Sto → (Bool → Sto → Prop) → XC → Prop) : RD where
  e := e
  t := t
  o := fun _ _ _ _ => False
def noE : WE := fun _ _ _ _ => False
def noT : Env → Sto → (Bool → Sto → Prop) → XC → Prop := fun _ _ _ _ => False
/-- how many (lists) -/
def cntC : CE → Nat
  | .cons _ as => cntC as + 1
  | _ => 0
def wp (Φ : Nat → List W → Sto → WK → XC → Prop) : CE → RD
  | .nil => {
      e := (noE),
      t := (noT),
      o := (fun _ S Q _ => Q none S),
      es := (fun _ S Q _ => Q [] S),
      c := (fun _ S Q => Q true S),
      gs := (fun ws ρ S Q => ws = [] ∧ Q ρ S) }
  | .cons a as => {
      e := (noE),
      t := (noT),
      o := (fun _ _ _ _ => False),
      es := (fun ρ S Q X => (wp Φ a).e ρ S (fun w S1 => (wp Φ as).es ρ S1 (fun ws S2 => Q (w :: ws) S2) X) X),
      an := (fun ρ S Q X => if (wp Φ as).more = true then (wp Φ a).e ρ S (fun x S1 => ∃ b, truW S1 x = some b ∧ if b = true then (wp Φ as).an ρ S1 Q X else Q x S1) X else (wp Φ a).e ρ S Q X),
      or := (fun ρ S Q X => if (wp Φ as).more = true then (wp Φ a).e ρ S (fun x S1 => ∃ b, truW S1 x = some b ∧ if b = true then Q x S1 else (wp Φ as).or ρ S1 Q X) X else (wp Φ a).e ρ S Q X),
      ant := (fun ρ S Q X => if (wp Φ as).more = true then (wp Φ a).t ρ S (fun b S1 => if b = true then (wp Φ as).ant ρ S1 Q X else Q false S1) X else (wp Φ a).t ρ S Q X),
      ort := (fun ρ S Q X => if (wp Φ as).more = true then (wp Φ a).t ρ S (fun b S1 => if b = true then Q true S1 else (wp Φ as).ort ρ S1 Q X) X else (wp Φ a).t ρ S Q X),
      c := (fun ρ S Q => (wp Φ a).t ρ S Q XN),
      gs := (fun ws ρ S Q => ∃ w r, ws = w :: r ∧ (wp Φ a).g w ρ S fun ρ1 S1 => (wp Φ as).gs r ρ1 S1 Q),
      more := (true) }
  | .var i => rdE fun ρ S Q _ => ∃ w, ρ[i]? = some (some w) ∧ Q w S
  | .cst c => rdE fun _ S Q _ => ∃ w, cstW c = some w ∧ Q w S
  | .glb _ c => rdE fun _ S Q _ => ∃ w, cstW c = some w ∧ Q w S
  | .bin live op a b => rdE fun ρ S Q X => (wp Φ a).e ρ S (fun x S1 => (wp Φ b).e ρ S1 (fun y S2 => bopW live op x y S2 Q) X) X
  | .neg a => rdE fun ρ S Q X => (wp Φ a).e ρ S (fun x S1 => ∃ i, x = .int i ∧ Q (.int (-i)) S1) X
  | .nt a => rdT (fun ρ S Q X => (wp Φ a).e ρ S (fun x S1 => ∃ b, truW S1 x = some b ∧ Q (.bl !b) S1) X) fun ρ S Q X => (wp Φ a).t ρ S (fun b S1 => Q (!b) S1) X
  | .cmp op a b => rdT (fun ρ S Q X => (wp Φ a).e ρ S (fun x S1 => (wp Φ b).e ρ S1 (fun y S2 => cmpW op x y S2 fun r => Q (.bl r) S2) X) X)
      fun ρ S Q X => (wp Φ a).e ρ S (fun x S1 => (wp Φ b).e ρ S1 (fun y S2 => cmpW op x y S2 fun r => Q r S2) X) X
  | .chain o1 o2 a b c => rdT (fun ρ S Q X => (wp Φ a).e ρ S (fun x S1 => (wp Φ b).e ρ S1 (fun y S2 => cmpW o1 x y S2 fun r =>
        if r = true then (wp Φ c).e ρ S2 (fun z S3 => cmpW o2 y z S3 fun r2 => Q (.bl r2) S3) X else Q (.bl false) S2) X) X)
      fun ρ S Q X => (wp Φ a).e ρ S (fun x S1 => (wp Φ b).e ρ S1 (fun y S2 => cmpW o1 x y S2 fun r =>
        if r = true then (wp Φ c).e ρ S2 (fun z S3 => cmpW o2 y z S3 fun r2 => Q r2 S3) X else Q false S2) X) X
  | .an as => rdT (wp Φ as).an (wp Φ as).ant
  | .or as => rdT (wp Φ as).or (wp Φ as).ort
  | .ife t a b => rdT (fun ρ S Q X => (wp Φ t).t ρ S (fun r S1 => if r = true then (wp Φ a).e ρ S1 Q X else (wp Φ b).e ρ S1 Q X) X) noT
  | .call f as => rdE fun ρ S Q X => (wp Φ as).es ρ S (fun ws S1 => Φ f ws S1 Q X) X
  | .blt b live as => rdE fun ρ S Q X => (wp Φ as).es ρ S (fun ws S1 => bltW live b ws S1 Q) X
  | .mth m o as => rdE fun ρ S Q X => (wp Φ o).e ρ S (fun x S1 => rcvW m x S1 ∧ (wp Φ as).es ρ S1 (fun ws S2 => mthW m x ws S2 Q) X) X
  | .idx a b => rdE fun ρ S Q X => (wp Φ a).e ρ S (fun x S1 => (wp Φ b).e ρ S1 (fun y S2 => idxW x y S2 Q) X) X
  | .slc live a lo hi => rdE fun ρ S Q X => (wp Φ a).e ρ S (fun x S1 => (wp Φ lo).o ρ S1 (fun l S2 => (wp Φ hi).o ρ S2 (fun u S3 => slcW live x l u S3 Q) X) X) X
  | .rev live a => rdE fun ρ S Q X => (wp Φ a).e ρ S (fun x S1 => ∃ ws, rdL S1 x = some ws ∧ mkL live ws.reverse S1 Q) X
  | .tup as => rdE fun ρ S Q X => (wp Φ as).es ρ S (fun ws S1 => ws.length ≤ sizeLine ∧ Q (.tup ws) S1) X
  | .lst live as => rdE fun ρ S Q X => (wp Φ as).es ρ S (fun ws S1 => ws.length ≤ sizeLine ∧ mkL live ws S1 Q) X
  | .dnew tk => rdE fun _ S Q _ => ∀ p, S p = none → Q (.ref p) (sup S p (if tk = true then .dt [] else .dk []))
  | .dct as => rdE fun ρ S Q X => (wp Φ as).es ρ S (fun ws S1 => ∃ kvs, putsK [] ws = some kvs ∧ ws.length ≤ 30 ∧ ∀ p, S1 p = none → Q (.ref p) (sup S1 p (.dk kvs))) X
  | .lc live own tg it cond elt => rdE fun ρ S Q X => (wp Φ it).i ρ S (fun src items S1 =>
      wpLc src (wp Φ tg).g (wp Φ cond).c (fun ρ1 S2 Q1 => (wp Φ elt).e ρ1 S2 Q1 XN) (wipeW ρ (own.map (·.2))) items [] S1 fun ws S2 => mkL live ws S2 Q) X
  | .frz a => rdE fun ρ S Q X => (wp Φ a).e ρ S (fun x S1 => ∃ p ws, x = .ref p ∧ S1 p = some (.lst ws) ∧ Q (.lst ws) (sdel S1 p)) X
  | .lrg live a => rdE fun ρ S Q X => (wp Φ a).e ρ S (fun x S1 => ∃ j, x = .int j ∧ 0 ≤ j ∧ j ≤ 16777216 ∧ mkL live (rngW 0 j.toNat) S1 Q) X
  | .isi a t => rdE fun ρ S Q X => (wp Φ a).e ρ S (fun x S1 => ∃ k, kndW S1 x = some k ∧ Q (.bl (subK k t)) S1) X
  | .tnm i => {
      e := (noE),
      t := (noT),
      o := (fun _ _ _ _ => False),
      g := (fun w ρ S Q => Q (ρ.set i (some w)) S) }
  | .ttup ts => {
      e := (noE),
      t := (noT),
      o := (fun _ _ _ _ => False),
      g := (fun w ρ S Q => ∃ ws, w = .tup ws ∧ ws.length = cntC ts ∧ (wp Φ ts).gs ws ρ S Q) }
  | .tsub o i => {
      e := (noE),
      t := (noT),
      o := (fun _ _ _ _ => False),
      g := (fun w ρ S Q => (wp Φ o).e ρ S (fun x S1 => (wp Φ i).e ρ S1 (fun k S2 => setW x k w S2 fun S3 => Q ρ S3) XN) XN) }
  | .iseq a => {
      e := (noE),
      t := (noT),
      o := (fun _ _ _ _ => False),
      i := (fun ρ S Q X => (wp Φ a).e ρ S (fun x S1 => ∃ ws, rdI S1 x = some ws ∧ Q (srcW x ws) ws S1) X) }
  | .irng1 a => {
      e := (noE),
      t := (noT),
      o := (fun _ _ _ _ => False),
      i := (fun ρ S Q X => (wp Φ a).e ρ S (fun x S1 => irngW [x] S1 Q) X) }
  | .irng2 a b => {
      e := (noE),
      t := (noT),
      o := (fun _ _ _ _ => False),
      i := (fun ρ S Q X => (wp Φ a).e ρ S (fun x S1 => (wp Φ b).e ρ S1 (fun y S2 => irngW [x, y] S2 Q) X) X) }
  | .irng3 a b c => {
      e := (noE),
      t := (noT),
      o := (fun _ _ _ _ => False),
      i := (fun ρ S Q X => (wp Φ a).e ρ S (fun x S1 => (wp Φ b).e ρ S1 (fun y S2 => (wp Φ c).e ρ S2 (fun z S3 => irng3W [x, y, z] S3 Q) X) X) X) }
  | .izip a b => {
      e := (noE),
      t := (noT),
      o := (fun _ _ _ _ => False),
      i := (fun ρ S Q X => (wp Φ a).e ρ S (fun x S1 => (wp Φ b).e ρ S1 (fun y S2 => ∃ xs ys, rdL S2 x = some xs ∧ rdL S2 y = some ys ∧
        Q (fun S => rdL S x = some xs ∧ rdL S y = some ys) (zipW xs ys) S2) X) X) }
  | .ienm a => {
      e := (noE),
      t := (noT),
      o := (fun _ _ _ _ => False),
      i := (fun ρ S Q X => (wp Φ a).e ρ S (fun x S1 => ∃ xs, rdL S1 x = some xs ∧ Q (fun S => rdL S x = some xs) (enmW 0 xs) S1) X) }

/-! ### statements -/
structure WEnds where
  nx : Env → Sto → Prop
  rt : WK
  bk : Env → Sto → Prop := fun _ _ => False
  ct : Env → Sto → Prop := fun _ _ => False
  xc : XC := fun _ _ => False
abbrev WS := Env → Sto → WEnds → Prop
inductive CS where
  | nil | seq (s r : CS)
  | asg (t e : CE)
  | par (is : List Nat) (es : CE)
  /-- of ints; sb: -= -/
  | aug (i : Nat) (sb : Bool) (e : CE)
  | augS (o i : CE) (sb : Bool) (e : CE)
  | expr (e : CE)
  | ret (e : CE) | retN
  | iff (t : CE) (a b : CS)
  | fr (t it : CE) (b : CS)
  | whl (t : CE) (b : CS)
  | cont | pass | brk
  /-- ghost: the list in a slot is frozen; cells are forgotten -/
  | gfrz (i : Nat)
  /-- ghost: cells are forgotten -/
  | gdrop
  | never
def wpFor (src : Sto → Prop) (g : W → Env → Sto → (Env → Sto → Prop) → Prop) (b : WS) : List W → Env → Sto → WEnds → Prop
  | [], ρ, S, D => src S ∧ D.nx ρ S
  | x :: xs, ρ, S, D => src S ∧ g x ρ S fun ρ1 S1 => b ρ1 S1 { D with nx := fun ρ2 S2 => wpFor src g b xs ρ2 S2 D, ct := fun ρ2 S2 => wpFor src g b xs ρ2 S2 D, bk := D.nx }
def setAll (ρ : Env) : List Nat → List W → Env
  | i :: is, w :: ws => setAll (ρ.set i (some w)) is ws
  | _, _ => ρ
def augI (sb : Bool) (a b : Int) : Int := if sb = true then a - b else a + b
def wps (Φ : Nat → List W → Sto → WK → XC → Prop) : CS → WS
  | .nil => fun ρ S D => D.nx ρ S
  | .seq s r => fun ρ S D => wps Φ s ρ S { D with nx := fun ρ1 S1 => wps Φ r ρ1 S1 D }
  | .asg t e => fun ρ S D => (wp Φ e).e ρ S (fun w S1 => (wp Φ t).g w ρ S1 D.nx) D.xc
  | .par is es => fun ρ S D => (wp Φ es).es ρ S (fun ws S1 => ws.length = is.length ∧ D.nx (setAll ρ is ws) S1) D.xc
  | .aug i op e => fun ρ S D => ∃ x, ρ[i]? = some (some x) ∧ (wp Φ e).e ρ S (fun y S1 => ∃ a b, x = .int a ∧ y = .int b ∧ D.nx (ρ.set i (some (.int (augI op a b)))) S1) D.xc
  | .augS o i op e => fun ρ S D => (wp Φ o).e ρ S (fun x S1 => (wp Φ i).e ρ S1 (fun k S2 => (∃ a, x = .ref a) ∧ idxW x k S2 fun v S3 => (wp Φ e).e ρ S3 (fun y S4 =>
      ∃ a b, v = .int a ∧ y = .int b ∧ setW x k (.int (augI op a b)) S4 fun S6 => D.nx ρ S6) D.xc) D.xc) D.xc
  | .expr e => fun ρ S D => (wp Φ e).e ρ S (fun _ S1 => D.nx ρ S1) D.xc
  | .ret e => fun ρ S D => (wp Φ e).e ρ S D.rt D.xc
  | .retN => fun _ S D => D.rt .non S
  | .iff t a b => fun ρ S D => (wp Φ t).t ρ S (fun r S1 => if r = true then wps Φ a ρ S1 D else wps Φ b ρ S1 D) D.xc
  | .fr t it b => fun ρ S D => (wp Φ it).i ρ S (fun src items S1 => wpFor src (wp Φ t).g (wps Φ b) items ρ S1 D) D.xc
  | .whl t b => fun ρ S D => ∃ I : Nat → Env → Sto → Prop, (∃ m, I m ρ S) ∧ ∀ m ρ S, I m ρ S → (wp Φ t).t ρ S (fun r S1 =>
      if r = true then wps Φ b ρ S1 { D with nx := fun ρ2 S2 => ∃ m', m' < m ∧ I m' ρ2 S2, ct := fun ρ2 S2 => ∃ m', m' < m ∧ I m' ρ2 S2, bk := D.nx } else D.nx ρ S1) D.xc
  | .cont => fun ρ S D => D.ct ρ S
  | .brk => fun ρ S D => D.bk ρ S
  | .pass => fun ρ S D => D.nx ρ S
  | .gfrz i => fun ρ S D => ∃ p ws, ρ[i]? = some (some (.ref p)) ∧ S p = some (.lst ws) ∧ D.nx (ρ.set i (some (.lst ws))) (sdel S p)
  | .gdrop => fun ρ S D => ∃ S', Fewer S' S ∧ D.nx ρ S'
  | .never => fun _ _ _ => False
end MP

set_option Elab.async false
set_option linter.all false
set_option maxRecDepth 100000
set_option maxHeartbeats 4000000
/-! MP3: the readings of the core language as the layer's; operators by value. -/
namespace MP
open PySem PySem.Spec PyProof.Rows L2

/-! ### readings as the layer's -/
def XRep (K : KH) (F H : Hp) (x : Exn) (d : Option Addr) : Prop :=
  match x.nm with
  | none => d = none
  | some w => ∃ dd v, d = some dd ∧ H dd = some (.xd [("name", v)]) ∧ Rep K F w v
/-- what is wanted of an exception -/
def XCk (K : KH) (E : XK) (S : Sto) (H : Hp) (X : XC) : Prop :=
  ∀ x S' H' d, StoOk K S' H' → Same (fz S H) (fz S' H') → XRep K (fz S' H') H' x d → X x S' → E (.ref x.cls) d H'
section
variable {K : KH} {E : XK} {S S' : Sto} {H H' : Hp} {X : XC}
theorem XCk.to (h : XCk K E S H X) (e : Same (fz S H) (fz S' H')) : XCk K E S' H' X := fun x S2 H2 d k q r h1 => h x S2 H2 d k (e.trans q) r h1
theorem XCk.no : XCk K E S H XN := fun _ _ _ _ _ _ _ h => h.elim
end
structure Ctx where
  K : KH
  E : L2.St → XK
structure Ct0 where
  K : PySem.W.Frag
  E : L2.St → XK
abbrev Ct0.at (c : Ct0) (h : Addr → Bool) : Ctx := ⟨⟨c.K, h⟩, c.E⟩
/-- a value's wish -/
def Kv (C : Ctx) (ρ : Env) (σ : L2.St) (S : Sto) (H : Hp) (Q : WK) (Q' : VK) : Prop :=
  ∀ w S' v H', Sim C.K ρ σ S' H' → Same (fz S H) (fz S' H') → Rep C.K (fz S' H') w v → Q w S' → Q' v H'
def tOf (c : Ct0) (e : WE) : TE := fun σ H Q' => ∃ h ρ S Q X, Sim (c.at h).K ρ σ S H ∧ e ρ S Q X ∧ Kv (c.at h) ρ σ S H Q Q' ∧ XCk (c.at h).K (c.E σ) S H X
def tOfT (c : Ct0) (t : Env → Sto → (Bool → Sto → Prop) → XC → Prop) : TT := fun σ H Q' => ∃ h ρ S Q X, Sim (c.at h).K ρ σ S H ∧ t ρ S Q X ∧
  (∀ b S' H', Sim (c.at h).K ρ σ S' H' → Same (fz S H) (fz S' H') → Q b S' → Q' b H') ∧ XCk (c.at h).K (c.E σ) S H X
def tOfA (c : Ct0) (es : Env → Sto → (List W → Sto → Prop) → XC → Prop) : TA := fun σ H Q' => ∃ h ρ S Q X, Sim (c.at h).K ρ σ S H ∧ es ρ S Q X ∧
  (∀ ws S' vs H', Sim (c.at h).K ρ σ S' H' → Same (fz S H) (fz S' H') → RepL (c.at h).K (fz S' H') ws vs → Q ws S' → Q' vs H') ∧ XCk (c.at h).K (c.E σ) S H X
def tOfO (c : Ct0) (o : Env → Sto → (Option Int → Sto → Prop) → XC → Prop) : TO := fun σ H Q' => ∃ h ρ S Q X, Sim (c.at h).K ρ σ S H ∧ o ρ S Q X ∧
  (∀ i S' H', Sim (c.at h).K ρ σ S' H' → Same (fz S H) (fz S' H') → Q i S' → Q' i H') ∧ XCk (c.at h).K (c.E σ) S H X
/-- a target: al, the slots it may change -/
def Al (al : List Nat) (σ σ' : L2.St) : Prop := σ'.length = σ.length ∧ ∀ j, j ∉ al → σ'[j]? = σ[j]?
def tOfG (c : Ct0) (al : List Nat) (g : W → Env → Sto → (Env → Sto → Prop) → Prop) : TG := fun v σ H Q' => ∃ h w ρ S Q, Sim (c.at h).K ρ σ S H ∧ Rep (c.at h).K (fz S H) w v ∧ g w ρ S Q ∧
  (∀ ρ' S' σ' H', Sim (c.at h).K ρ' σ' S' H' → Same (fz S H) (fz S' H') → Al al σ σ' → Q ρ' S' → Q' σ' H')
def tOfGs (c : Ct0) (al : List Nat) (g : List W → Env → Sto → (Env → Sto → Prop) → Prop) : TGs := fun vs σ H Q' => ∃ h ws ρ S Q, Sim (c.at h).K ρ σ S H ∧ RepL (c.at h).K (fz S H) ws vs ∧ g ws ρ S Q ∧
  (∀ ρ' S' σ' H', Sim (c.at h).K ρ' σ' S' H' → Same (fz S H) (fz S' H') → Al al σ σ' → Q ρ' S' → Q' σ' H')
theorem Al.refl {al : List Nat} {σ : L2.St} : Al al σ σ := ⟨rfl, fun _ _ => rfl⟩
theorem Al.trans {al : List Nat} {σ σ1 σ2 : L2.St} (a : Al al σ σ1) (b : Al al σ1 σ2) : Al al σ σ2 := ⟨b.1.trans a.1, fun j h => (b.2 j h).trans (a.2 j h)⟩
theorem Al.mono {al al' : List Nat} {σ σ1 : L2.St} (a : Al al σ σ1) (h : ∀ j ∈ al, j ∈ al') : Al al' σ σ1 := ⟨a.1, fun j hj => a.2 j fun z => hj (h j z)⟩
theorem Al.set {i : Nat} {σ : L2.St} {x : Option V} : Al [i] σ (σ.set i x) := ⟨List.length_set, fun j h => by
  rw [List.getElem?_set_ne]
  intro e; exact h (by rw [e]; exact List.mem_singleton.mpr rfl)⟩

theorem PE.imp {X : Cx} {e : Expr} {t t' : TE} (h : PE X e t) (i : ∀ σ H Q, t' σ H Q → t σ H Q) : PE X e t' := ⟨fun pins s σ H Q I q => h.run pins s σ H Q I (i σ H Q q)⟩
theorem PT.imp {X : Cx} {e : Expr} {t t' : TT} (h : PT X e t) (i : ∀ σ H Q, t' σ H Q → t σ H Q) : PT X e t' := ⟨fun pins s σ H Q I q => h.run pins s σ H Q I (i σ H Q q)⟩
theorem PW.imp {X : Cx} {e : Expr} {t t' : TT} (h : PW X e t) (i : ∀ σ H Q, t' σ H Q → t σ H Q) : PW X e t' := ⟨fun wh pins s σ H Q I q => h.run wh pins s σ H Q I (i σ H Q q)⟩
theorem PA.imp {X : Cx} {e : List Expr} {t t' : TA} (h : PA X e t) (i : ∀ σ H Q, t' σ H Q → t σ H Q) : PA X e t' := ⟨fun p pins s σ H Q I q => h.run p pins s σ H Q I (i σ H Q q)⟩
theorem PO.imp {X : Cx} {e : Option Expr} {t t' : TO} (h : PO X e t) (i : ∀ σ H Q, t' σ H Q → t σ H Q) : PO X e t' := ⟨fun pins s σ H Q I q => h.run pins s σ H Q I (i σ H Q q)⟩
theorem PG.imp {X : Cx} {e : Expr} {t t' : TG} (h : PG X e t) (i : ∀ v σ H Q, t' v σ H Q → t v σ H Q) : PG X e t' := ⟨fun pins s σ H v u Q I r q => h.run pins s σ H v u Q I r (i v σ H Q q)⟩
theorem PGs.imp {X : Cx} {e : List Expr} {t t' : TGs} (h : PGs X e t) (i : ∀ v σ H Q, t' v σ H Q → t v σ H Q) : PGs X e t' := ⟨fun pins s σ H v u Q I r q => h.run pins s σ H v u Q I r (i v σ H Q q)⟩
theorem PS.imp {X : Cx} {e : Stmt} {t t' : TS} (h : PS X e t) (i : ∀ D σ H, t' D σ H → t D σ H) : PS X e t' := ⟨fun pins s σ H D I q => h.run pins s σ H D I (i D σ H q)⟩
theorem PSs.imp {X : Cx} {e : List Stmt} {t t' : TS} (h : PSs X e t) (i : ∀ D σ H, t' D σ H → t D σ H) : PSs X e t' := ⟨fun pins s σ H D I q => h.run pins s σ H D I (i D σ H q)⟩

/-! ### values read -/
section
variable {K : KH} {S : Sto} {H : Hp} {w x y : W} {v vx vy : V} {ws : List W}
theorem rd_obL {a : Addr} {o : Ob} {u : HO} {ws : List W} (r : ObR K (fz S H) H a o u) (e : obL o = some ws) : ∃ vs, (u = .lst vs ∨ ∃ od, u = .frz od (.lst vs)) ∧ RepL K (fz S H) ws vs := by
  cases o with
  | lst us =>
    cases e
    obtain ⟨vs, h, r⟩ := r
    exact ⟨vs, .inl h, r⟩
  | lk o =>
    cases o with
    | lst us =>
      cases e
      obtain ⟨od, u', h, vs, h2, r⟩ := r
      exact ⟨vs, .inr ⟨od, by rw [h, h2]⟩, r⟩
    | _ => cases e
  | _ => cases e
theorem rd_obK {a : Addr} {o : Ob} {u : HO} {ws : List (Key × W)} (r : ObR K (fz S H) H a o u) (e : obK o = some ws) : ∃ vs, (u = .dK vs ∨ ∃ od, u = .frz od (.dK vs)) ∧ KVR K (fz S H) ws vs := by
  cases o with
  | dk us =>
    cases e
    obtain ⟨vs, h, r⟩ := r
    exact ⟨vs, .inl h, r⟩
  | lk o =>
    cases o with
    | dk us =>
      cases e
      obtain ⟨od, u', h, vs, h2, r⟩ := r
      exact ⟨vs, .inr ⟨od, by rw [h, h2]⟩, r⟩
    | _ => cases e
  | _ => cases e
theorem rd_obT {a : Addr} {o : Ob} {u : HO} {ws : List (List Key × W)} (r : ObR K (fz S H) H a o u) (e : obT o = some ws) : ∃ vs, (u = .dT vs ∨ ∃ od, u = .frz od (.dT vs)) ∧ KVR K (fz S H) ws vs := by
  cases o with
  | dt us =>
    cases e
    obtain ⟨vs, h, r⟩ := r
    exact ⟨vs, .inl h, r⟩
  | lk o =>
    cases o with
    | dt us =>
      cases e
      obtain ⟨od, u', h, vs, h2, r⟩ := r
      exact ⟨vs, .inr ⟨od, by rw [h, h2]⟩, r⟩
    | _ => cases e
  | _ => cases e
theorem cell_obL {a : Addr} (k : StoOk K S H) (h : (S a).bind obL = some ws) : ∃ vs, Rd H a (.lst vs) ∧ RepL K (fz S H) ws vs := by
  cases e : S a with
  | none => rw [e] at h; cases h
  | some o =>
    rw [e] at h
    obtain ⟨u, hu, r⟩ := k.at' a o e
    obtain ⟨vs, h1, h2⟩ := rd_obL r h
    rcases h1 with h1 | ⟨od, h1⟩
    · exact ⟨vs, .inl (h1 ▸ hu), h2⟩
    · exact ⟨vs, .inr ⟨od, h1 ▸ hu⟩, h2⟩
theorem cell_obK {a : Addr} {kvs : List (Key × W)} (k : StoOk K S H) (h : (S a).bind obK = some kvs) : ∃ vs, Rd H a (.dK vs) ∧ KVR K (fz S H) kvs vs := by
  cases e : S a with
  | none => rw [e] at h; cases h
  | some o =>
    rw [e] at h
    obtain ⟨u, hu, r⟩ := k.at' a o e
    obtain ⟨vs, h1, h2⟩ := rd_obK r h
    rcases h1 with h1 | ⟨od, h1⟩
    · exact ⟨vs, .inl (h1 ▸ hu), h2⟩
    · exact ⟨vs, .inr ⟨od, h1 ▸ hu⟩, h2⟩
theorem cell_obT {a : Addr} {kvs : List (List Key × W)} (k : StoOk K S H) (h : (S a).bind obT = some kvs) : ∃ vs, Rd H a (.dT vs) ∧ KVR K (fz S H) kvs vs := by
  cases e : S a with
  | none => rw [e] at h; cases h
  | some o =>
    rw [e] at h
    obtain ⟨u, hu, r⟩ := k.at' a o e
    obtain ⟨vs, h1, h2⟩ := rd_obT r h
    rcases h1 with h1 | ⟨od, h1⟩
    · exact ⟨vs, .inl (h1 ▸ hu), h2⟩
    · exact ⟨vs, .inr ⟨od, h1 ▸ hu⟩, h2⟩
/-- a list is read -/
theorem rdL_sq (k : StoOk K S H) (r : Rep K (fz S H) w v) (h : rdL S w = some ws) : ∃ a vs, v = .ref a ∧ SqR K.K H a vs ∧ RepL K (fz S H) ws vs := by
  cases w with
  | lst us =>
    cases h
    cases r with
    | lst _ h1 h2 => exact ⟨_, _, rfl, .inl (same_rd fz_sub h1), h2⟩
    | klst h1 h2 => exact ⟨_, _, rfl, .inr h1, h2⟩
  | ref a =>
    cases r
    obtain ⟨vs, h1, h2⟩ := cell_obL k h
    exact ⟨a, vs, rfl, .inl h1, h2⟩
  | _ => cases h
theorem rdQ_sq (k : StoOk K S H) (r : Rep K (fz S H) w v) (h : rdQ S w = some ws) : ∃ a vs, v = .ref a ∧ (SqL K.K H a vs ∨ SqT K.K H a vs) ∧ RepL K (fz S H) ws vs := by
  cases w with
  | tup us =>
    cases h
    cases r with
    | tup _ h1 h2 => exact ⟨_, _, rfl, .inr (.inl (.inl (fz_sub _ _ h1))), h2⟩
  | lst us =>
    obtain ⟨a, vs, e, h1, h2⟩ := rdL_sq k r (show rdL S (.lst us) = some ws from h)
    exact ⟨a, vs, e, .inl h1.sq, h2⟩
  | ref a =>
    obtain ⟨a, vs, e, h1, h2⟩ := rdL_sq k r (show rdL S (.ref a) = some ws from h)
    exact ⟨a, vs, e, .inl h1.sq, h2⟩
  | _ => cases h
theorem tup_sq {us : List W} (r : Rep K (fz S H) (.tup us) v) : ∃ a vs, v = .ref a ∧ H a = some (.tup vs) ∧ RepL K (fz S H) us vs := by
  cases r with
  | tup _ h1 h2 => exact ⟨_, _, rfl, fz_sub _ _ h1, h2⟩
mutual
theorem Vw.dp (k : StoOk K S H) : ∀ {w : W} {d : PyData} {v : V}, Vw S w d → Rep K (fz S H) w v → Dp K.K H v d
  | _, _, _, .non, .non => .non
  | _, _, _, .bl b, .bl _ => .bl b
  | _, _, _, .int i, .int _ => .int i
  | _, _, _, .str x, .str _ => .str x
  | _, _, _, .tup h, .tup _ h1 h2 => .tup (.inl (.inl (fz_sub _ _ h1))) (VwL.dp k h h2)
  | _, _, _, .lst h, .lst _ h1 h2 => .lst (.inl (same_rd fz_sub h1)) (VwL.dp k h h2)
  | _, _, _, .lst h, .klst h1 h2 => .lst (SqR.sq (.inr h1)) (VwL.dp k h h2)
  | _, _, _, .ref e h, .ref _ => by
    obtain ⟨vs, h1, h2⟩ := cell_obL k e
    exact .lst (.inl h1) (VwL.dp k h h2)
theorem VwL.dp (k : StoOk K S H) : ∀ {ws : List W} {ds : List PyData} {vs : List V}, VwL S ws ds → RepL K (fz S H) ws vs → DpAll K.K H vs ds
  | _, _, _, .nil, .nil => .nil
  | _, _, _, .cons a b, .cons c d => .cons (Vw.dp k a c) (VwL.dp k b d)
end
theorem keyW_v {k : Key} (h : keyW w = some k) (r : Rep K (fz S H) w v) : v = kV k := by
  cases w with
  | int i => cases h; cases r; rfl
  | str x => cases h; cases r; rfl
  | _ => cases h
theorem keysW_v : ∀ {ws : List W} {vs : List V} {ks : List Key}, keysW ws = some ks → RepL K (fz S H) ws vs → vs = ks.map kV
  | [], _, _, h, .nil => by cases h; rfl
  | w :: ws, _, ks, h, .cons a b => by
    unfold keysW at h
    cases e : keyW w with
    | none => rw [e] at h; cases h
    | some k =>
      rw [e] at h
      cases e2 : keysW ws with
      | none => rw [e2] at h; cases h
      | some ks' =>
        rw [e2] at h
        cases h
        rw [keyW_v e a, keysW_v e2 b]
        rfl
theorem kvr_get {κ : Type} [DecidableEq κ] {F : Hp} : ∀ {kvs : List (κ × W)} {kv' : List (κ × V)}, KVR K F kvs kv' → ∀ k : κ, (getK kvs k = none ∧ valV kv' k = none) ∨ ∃ w v, getK kvs k = some w ∧ valV kv' k = some v ∧ Rep K F w v
  | _, _, .nil, k => .inl ⟨rfl, rfl⟩
  | (k0, w) :: kvs, (k1, v) :: kv', .cons ⟨h1, h2⟩ t, k => by
    obtain rfl : k0 = k1 := h1
    by_cases e : k0 = k
    · refine .inr ⟨w, v, ?_, valV_pos e, h2⟩
      unfold getK
      rw [List.find?_cons_of_pos (by simpa using e)]
      rfl
    · rw [valV_neg e]
      have : getK ((k0, w) :: kvs) k = getK kvs k := by
        unfold getK
        rw [List.find?_cons_of_neg (by simpa using e)]
      rw [this]
      exact kvr_get t k
theorem kvr_any {κ : Type} [DecidableEq κ] {F : Hp} : ∀ {kvs : List (κ × W)} {kv' : List (κ × V)}, KVR K F kvs kv' → ∀ k : κ, (kvs.any fun kv => decide (kv.1 = k)) = (kv'.any fun kv => decide (kv.1 = k))
  | _, _, .nil, k => rfl
  | (k0, w) :: kvs, (k1, v) :: kv', .cons ⟨h1, h2⟩ t, k => by
    obtain rfl : k0 = k1 := h1
    rw [List.any_cons, List.any_cons, kvr_any t k]
theorem kvr_map {κ : Type} [DecidableEq κ] {F : Hp} {k : κ} (r : Rep K F w v) : ∀ {kvs : List (κ × W)} {kv' : List (κ × V)}, KVR K F kvs kv' →
    KVR K F (kvs.map fun kv => if kv.1 = k then (kv.1, w) else kv) (kv'.map fun kv => if kv.1 = k then (kv.1, v) else kv)
  | _, _, .nil => .nil
  | (k0, w) :: kvs, (k1, v) :: kv', .cons ⟨h1, h2⟩ t => by
    obtain rfl : k0 = k1 := h1
    rw [List.map_cons, List.map_cons]
    refine .cons ?_ (kvr_map r t)
    by_cases e : k0 = k
    · rw [if_pos e, if_pos e]; exact ⟨rfl, r⟩
    · rw [if_neg e, if_neg e]; exact ⟨rfl, h2⟩
theorem paired_app {α β : Type} {G : α → β → Prop} : ∀ {l1 m1 : List α} {l2 m2 : List β}, Paired G l1 l2 → Paired G m1 m2 → Paired G (l1 ++ m1) (l2 ++ m2)
  | _, _, _, _, .nil, h => h
  | _, _, _, _, .cons a b, h => .cons a (paired_app b h)
theorem kvr_put {κ : Type} [DecidableEq κ] {F : Hp} {k : κ} {kvs : List (κ × W)} {kv' : List (κ × V)} (h : KVR K F kvs kv') (r : Rep K F w v) : KVR K F (setK kvs k w) (putK kv' k v) := by
  unfold setK putK
  rw [kvr_any h k]
  split
  · exact kvr_map r h
  · exact paired_app h (.cons ⟨rfl, r⟩ .nil)
theorem kvr_drop {κ : Type} [DecidableEq κ] {F : Hp} {k : κ} : ∀ {kvs : List (κ × W)} {kv' : List (κ × V)}, KVR K F kvs kv' → KVR K F (delK kvs k) (dropK kv' k)
  | _, _, .nil => .nil
  | (k0, w) :: kvs, (k1, v) :: kv', .cons ⟨h1, h2⟩ t => by
    obtain rfl : k0 = k1 := h1
    unfold delK dropK
    rw [List.filter_cons, List.filter_cons]
    by_cases e : k0 = k
    · rw [if_neg (by simpa using e), if_neg (by simpa using e)]
      exact kvr_drop t
    · rw [if_pos (by simpa using e), if_pos (by simpa using e)]
      exact .cons ⟨rfl, h2⟩ (kvr_drop t)
theorem kvr_len {κ : Type} {F : Hp} : ∀ {kvs : List (κ × W)} {kv' : List (κ × V)}, KVR K F kvs kv' → kvs.length = kv'.length
  | _, _, .nil => rfl
  | _ :: _, _ :: _, .cons _ t => by rw [List.length_cons, List.length_cons, kvr_len t]
/-- a dict is asked for a key -/
theorem rdD_get {o : Option W} (k : StoOk K S H) (rx : Rep K (fz S H) x vx) (ry : Rep K (fz S H) y vy) (h : rdD S x y = some o) :
    ∃ a r, vx = .ref a ∧ DGet H a vy r ∧ ((o = none ∧ r = none) ∨ ∃ w v, o = some w ∧ r = some v ∧ Rep K (fz S H) w v) := by
  cases x with
  | ref a =>
    cases rx
    unfold rdD at h
    cases e : S a with
    | none => simp [e] at h
    | some ob =>
      simp only [e, Option.bind_some] at h
      obtain ⟨u, hu, r⟩ := k.at' a ob e
      cases e1 : obK ob with
      | some kvs =>
        simp only [e1] at h
        cases e2 : keyW y with
        | none => simp [e2] at h
        | some kk =>
          simp only [e2, Option.map_some, Option.some.injEq] at h
          obtain ⟨vs, h1, h2⟩ := rd_obK r e1
          have hR : Rd H a (.dK vs) := by
            rcases h1 with h1 | ⟨od, h1⟩
            · exact .inl (h1 ▸ hu)
            · exact .inr ⟨od, h1 ▸ hu⟩
          refine ⟨a, valV vs kk, rfl, .inl ⟨vs, kk, hR, keyW_v e2 ry, rfl⟩, ?_⟩
          rcases kvr_get h2 kk with ⟨q1, q2⟩ | ⟨w, v, q1, q2, q3⟩
          · exact .inl ⟨h ▸ q1, q2⟩
          · exact .inr ⟨w, v, h ▸ q1, q2, q3⟩
      | none =>
        cases e2 : obT ob with
        | none => simp [e1, e2] at h
        | some kvs =>
          cases y with
          | tup ks =>
            simp only [e1, e2] at h
            cases e3 : keysW ks with
            | none => simp [e3] at h
            | some kk =>
              simp only [e3, Option.map_some, Option.some.injEq] at h
              obtain ⟨vs, h1, h2⟩ := rd_obT r e2
              have hR : Rd H a (.dT vs) := by
                rcases h1 with h1 | ⟨od, h1⟩
                · exact .inl (h1 ▸ hu)
                · exact .inr ⟨od, h1 ▸ hu⟩
              obtain ⟨b, us, rfl, hb, ru⟩ := tup_sq ry
              refine ⟨a, valV vs kk, rfl, .inr ⟨vs, kk, b, hR, rfl, by rw [hb, keysW_v e3 ru], rfl⟩, ?_⟩
              rcases kvr_get h2 kk with ⟨q1, q2⟩ | ⟨w, v, q1, q2, q3⟩
              · exact .inl ⟨h ▸ q1, q2⟩
              · exact .inr ⟨w, v, h ▸ q1, q2, q3⟩
          | _ => simp [e1, e2] at h
  | _ => cases h
end

/-! ### new things -/
section
variable {C : Ctx} {ρ : Env} {σ : L2.St} {S : Sto} {H : Hp} {Q : WK} {Q' : VK}
theorem Kv.give (k : Kv C ρ σ S H Q Q') (s : Sim C.K ρ σ S H) {w : W} {v : V} (r : Rep C.K (fz S H) w v) (q : Q w S) : Q' v H := k w S v H s (Same.refl _) r q
theorem Kv.to {S1 : Sto} {H1 : Hp} (k : Kv C ρ σ S H Q Q') (e : Same (fz S H) (fz S1 H1)) : Kv C ρ σ S1 H1 Q Q' := fun w S' v H' s q r h => k w S' v H' s (e.trans q) r h
theorem Kv.newTup (k : Kv C ρ σ S H Q Q') (s : Sim C.K ρ σ S H) {ws : List W} {vs : List V} (r : RepL C.K (fz S H) ws vs) (q : Q (.tup ws) S) :
    ∀ p, H p = none → Q' (.ref p) (upd H p (.tup vs)) := fun p hp => by
  have e := same_new (o := .tup vs) s.sto hp
  exact k _ S _ _ (s.to e (s.sto.new hp)) e (.tup (s.sto.nohid hp) (fz_new s.sto hp) (r.mono e)) q
theorem Kv.newLst (k : Kv C ρ σ S H Q Q') (s : Sim C.K ρ σ S H) {live : Bool} {ws : List W} {vs : List V} (r : RepL C.K (fz S H) ws vs) (q : mkL live ws S Q) :
    ∀ p, H p = none → Q' (.ref p) (upd H p (.lst vs)) := fun p hp => by
  cases live with
  | true =>
    have e := same_newc (ob := .lst ws) (o := .lst vs) s.sto hp
    exact k _ _ _ _ (s.to e (s.sto.newc hp ⟨vs, rfl, r⟩)) e (.ref p) (q p (s.sto.free hp))
  | false =>
    have e := same_new (o := .lst vs) s.sto hp
    exact k _ S _ _ (s.to e (s.sto.new hp)) e (.lst (s.sto.nohid hp) (.inl (fz_new s.sto hp)) (r.mono e)) q
end

/-! ### operators: from plain values to the layer's rules -/
/-- what is known of two values that an operator meets -/
def OpS (C : Ctx) (g : W → W → Sto → WK → Prop) (r : R2) : Prop := ∀ (x y : W) (vx vy : V) (ρ : Env) (σ : L2.St) (S : Sto) (H : Hp) (Q : WK) (Q' : VK), Sim C.K ρ σ S H → Rep C.K (fz S H) x vx → Rep C.K (fz S H) y vy →
  g x y S Q → Kv C ρ σ S H Q Q' → r vx vy H Q'
theorem tOf_op {c : Ct0} {g : W → W → Sto → WK → Prop} {r : R2} (h : ∀ h, OpS (c.at h) g r) {a b : WE} {σ : L2.St} {H : Hp} {Q' : VK}
    (q : tOf c (fun ρ S Q X => a ρ S (fun x S1 => b ρ S1 (fun y S2 => g x y S2 Q) X) X) σ H Q') : tOp r (tOf c a) (tOf c b) σ H Q' := by
  obtain ⟨hh, ρ, S, Q, X, s, q, k, kx⟩ := q
  refine ⟨hh, ρ, S, _, X, s, q, fun x S1 vx H1 s1 e1 r1 q1 => ?_, kx⟩
  refine ⟨hh, ρ, S1, _, X, s1, q1, fun y S2 vy H2 s2 e2 r2 q2 => ?_, kx.to e1⟩
  exact h hh x y vx vy ρ σ S2 H2 Q Q' s2 (r1.mono e2) r2 q2 (k.to (e1.trans e2))
end MP

set_option Elab.async false
set_option linter.all false
set_option maxRecDepth 100000
set_option maxHeartbeats 4000000
/-! MP4: operators, comparisons, subscripts, built-ins by value. -/
namespace MP
open PySem PySem.Spec PyProof.Rows L2

/-! ### lists that are read only, as operands -/
section
variable {X : Cx} {pins : List (Addr × Obj)} {σ : L2.St} {H : Hp} {s : Shared} {l : Addr} {xs : List V}
theorem lstR (I : Inv X pins σ H s) (h : SqR X.K H l xs) : xs.length ≤ sizeLine ∧ ∃ (its : List Value) (n : Nat), Vals xs its ∧ xs.length = its.length ∧ s.heap.get? l = some { cls := .type "list", data := .seq its.toArray n } := by
  rcases h with h | ⟨its, n, hk, hz, r⟩
  · obtain ⟨z, its, n, r, e⟩ := h.ok I.hok
    exact ⟨z, its, n, r, r.length, e⟩
  · exact ⟨by rw [r.length]; simpa using hz, its.toList, n, r, r.length, by simpa using I.kIn _ _ hk⟩
def rCatR (K : PySem.W.Frag) : R2 := fun x y H Q => ∃ l b xs zs, x = .ref l ∧ y = .ref b ∧ SqR K H l xs ∧ SqR K H b zs ∧ xs.length + zs.length ≤ sizeLine ∧ ∀ p, H p = none → Q (.ref p) (upd H p (.lst (xs ++ zs)))
theorem op_catR : OpR X (binaryOp .Add) (rCatR X.K) := by
  intro pins s σ H x y v u Q I rx ry h
  obtain ⟨l, b, xs, zs, rfl, rfl, hH, hB, hz, q⟩ := h
  cases rx
  cases ry
  obtain ⟨z, its, n, r, hl, e⟩ := lstR I hH
  obtain ⟨z2, its2, n2, r2, hl2, e2⟩ := lstR I hB
  refine PySem.P.add_list e e2 ?_ (by rw [List.size_toArray, List.size_toArray]; omega)
  have ea : its.toArray ++ its2.toArray = (its ++ its2).toArray := by simp
  rw [ea]
  exact ⟨.ref _, _, I.lnew (t' := s.toks) (r.append r2) (by rw [List.length_append]; omega), rfl, q _ I.fresh⟩
def rRepR (K : PySem.W.Frag) : R2 := fun x y H Q => ∃ l k xs, x = .ref l ∧ y = .int k ∧ SqR K H l xs ∧ -(2 ^ 63) ≤ k ∧ k < 2 ^ 63 ∧ xs.length * k.toNat ≤ sizeLine ∧
  ∀ p, H p = none → Q (.ref p) (upd H p (.lst (List.replicate k.toNat xs).flatten))
theorem op_repR : OpR X (binaryOp .Mult) (rRepR X.K) := by
  intro pins s σ H x y v u Q I rx ry h
  obtain ⟨l, k, xs, rfl, rfl, hH, h1, h2, hz, q⟩ := h
  cases rx
  obtain ⟨t, rfl⟩ := ry
  obtain ⟨z, its, n, r, hl, e⟩ := lstR I hH
  have hlen : its.toArray.size * k.toNat ≤ sizeLine := by rw [List.size_toArray, ← hl]; exact hz
  have hcap : ¬ its.toArray.size * k.toNat > (2 ^ 63 - 1) / 8 := by
    have : (sizeLine : Nat) ≤ (2 ^ 63 - 1) / 8 := by decide
    omega
  have hfit : ¬ (!Builtin.List.listFitsIndex k) = true := by
    rw [fitsIndex_both h1 h2]
    exact Bool.false_ne_true
  have hlong : ¬ Builtin.List.listTooLong (its.toArray.size * k.toNat) = true := by
    rw [notLongL hlen]
    exact Bool.false_ne_true
  have hnew : List.foldl (fun x1 x2 => x1 ++ x2) #[] (List.replicate (if its.toArray.isEmpty = true then 0 else k.toNat) its.toArray) = (List.replicate k.toNat its).flatten.toArray := by
    have f0 : ∀ m : Nat, List.foldl (fun x1 x2 => x1 ++ x2) #[] (List.replicate m its.toArray) = (List.replicate m its).flatten.toArray := fun m => by
      have := foldl_rep its m []
      rw [List.nil_append] at this
      exact this
    rw [f0]
    cases its with
    | nil => simp
    | cons a r' => rw [if_neg (by simp)]
  refine wpAny_binaryOp_repeat_ref (T := "list") (U := "int") (by decide) ⟨_, e, rfl⟩ (fun s' => typeIs_int s' k t) noFill_list_mul F.fills_int_mul F.slot_int_rmul repeat_list F.slot_int_index.lookup
    (call_meets F.slot_int_rmul (typeIs_int s k t) F.entry_int_rmul (F.args_int_rmul_2 _ _) (int___rmul___int_list k t l its.toArray n)
      ⟨e, rfl, ⟨_, e, rfl⟩, call_meets F.slot_list_mul ⟨_, e, rfl⟩ F.entry_list_mul (F.args_list_mul_2 _ _) (AutoListH.list___mul___list_int_3 l its.toArray n k t hfit hcap hlong) ⟨e, ?_⟩⟩)
  rw [hnew]
  exact ⟨.ref _, _, I.lnew (t' := s.toks) (r.rep k.toNat) (by rw [PyProof.Rows.lm_len_rep_flat, Nat.mul_comm]; exact hz), rfl, q _ I.fresh⟩
end

/-! ### binary operators -/
def rBop (K : PySem.W.Frag) : Bop → R2
  | .add => fun x y H Q => ((rI0 fun i j => .int (i + j)) x y H Q ∨ (∃ i j, x = .str i ∧ y = .str j ∧ i.length + j.length ≤ sizeLine ∧ Q (.str (i ++ j)) H)) ∨ (rCatA K x y H Q ∨ rCatR K x y H Q)
  | .sub => rI0 fun i j => .int (i - j)
  | .mul => fun x y H Q => (rI CMulW fun i j => .int (i * j)) x y H Q ∨ rRepR K x y H Q
  | .fdiv => rI CDivW fun i j => .int (i / j)
  | .mod => rI (fun _ j => 0 < j) fun i j => .int (i % j)
  | .pow => rI CPow fun i j => .int (i ^ j.toNat)
theorem op_bop {X : Cx} : ∀ b : Bop, OpR X (binaryOp b.op) (rBop X.K b)
  | .add => (op_add.or op_add_str).or (op_catA.or op_catR)
  | .sub => op_sub
  | .mul => op_mulW.or op_repR
  | .fdiv => op_fdivW
  | .mod => op_mod
  | .pow => op_pow
theorem ops_bop {C : Ctx} {live : Bool} (b : Bop) : OpS C (bopW live b) (rBop C.K.K b) := by
  intro x y vx vy ρ σ S H Q Q' s rx ry g k
  unfold bopW at g
  split at g
  · cases rx; cases ry
    exact .inl (.inl ⟨_, _, rfl, rfl, k.give s (.int _) g⟩)
  · cases rx; cases ry
    exact .inl (.inr ⟨_, _, rfl, rfl, g.1, k.give s (.str _) g.2⟩)
  · obtain ⟨ne, hl, q⟩ := g
    obtain ⟨a, us, rfl, ha, ra⟩ := tup_sq rx
    obtain ⟨b, vs, rfl, hb, rb⟩ := tup_sq ry
    have ne' : us ≠ [] := fun e => by subst e; cases ra; exact ne rfl
    refine .inr (.inl ⟨a, b, us, vs, rfl, rfl, .of ha, .of hb, by rw [← ra.length, ← rb.length]; exact hl, fun e => absurd e ne', fun _ e => ?_, fun _ _ => k.newTup s (ra.append rb) q⟩)
    subst e
    cases rb
    rw [List.append_nil] at q
    exact k.give s rx q
  · obtain ⟨xs, ys, hx, hy, hl, q⟩ := g
    obtain ⟨a, us, rfl, ha, ra⟩ := rdL_sq s.sto rx hx
    obtain ⟨b, vs, rfl, hb, rb⟩ := rdL_sq s.sto ry hy
    exact .inr (.inr ⟨a, b, us, vs, rfl, rfl, ha, hb, by rw [← ra.length, ← rb.length]; exact hl, k.newLst s (ra.append rb) q⟩)
  · cases rx; cases ry
    exact ⟨_, _, rfl, rfl, k.give s (.int _) g⟩
  · cases rx; cases ry
    exact .inl ⟨_, _, rfl, rfl, g.1, k.give s (.int _) g.2⟩
  · cases ry
    obtain ⟨xs, hx, h1, h2, hl, q⟩ := g
    obtain ⟨a, us, rfl, ha, ra⟩ := rdL_sq s.sto rx hx
    exact .inr ⟨a, _, us, rfl, rfl, ha, h1, h2, by rw [← ra.length]; exact hl, k.newLst s (ra.rep _) q⟩
  · cases rx; cases ry
    exact ⟨_, _, rfl, rfl, g.1, k.give s (.int _) g.2⟩
  · cases rx; cases ry
    exact ⟨_, _, rfl, rfl, g.1, k.give s (.int _) g.2⟩
  · cases rx; cases ry
    exact ⟨_, _, rfl, rfl, g.1, k.give s (.int _) g.2⟩
  · exact g.elim

/-! ### comparisons -/
def rOrd (K : PySem.W.Frag) (f : Bool → Bool → Bool) : R2 := fun x y H Q => ∃ d e, Dp K H x d ∧ Dp K H y e ∧ PySem.W.alike d e = true ∧ d ≠ .none ∧ SeqAt.shaped d = true ∧ SeqAt.shaped e = true ∧ Q (.bl (f (PySem.W.dataLt d e) (PySem.W.dataLt e d))) H
theorem op_ord {X : Cx} (hu : X.A.units + 65 < cLine) {o : CmpOp} {f : Bool → Bool → Bool} (ho : (o = .Lt ∧ f = fun l _ => l) ∨ (o = .LtE ∧ f = fun _ g => !g) ∨ (o = .Gt ∧ f = fun _ g => g) ∨ (o = .GtE ∧ f = fun l _ => !l)) : OpR X (compareOp o) (rOrd X.K f) := by
  intro pins s σ H x y v u Q I rx ry h
  obtain ⟨d, e, hd, he, al, dn, sd, se, q⟩ := h
  obtain ⟨as, ra⟩ := Dp.reads I d x v hd rx
  obtain ⟨bs, rb⟩ := Dp.reads I e y u he ry
  have room : X.A.units + min d.depth e.depth < cLine := SeqAt.room_of_shaped sd (by omega)
  rcases ho with ⟨rfl, rfl⟩ | ⟨rfl, rfl⟩ | ⟨rfl, rfl⟩ | ⟨rfl, rfl⟩
  · exact PySem.W.lt_data ra rb al dn room ⟨.bl _, H, I, rfl, q⟩
  · exact PySem.W.le_data ra rb al dn room ⟨.bl _, H, I, rfl, q⟩
  · exact PySem.W.gt_data ra rb al dn room ⟨.bl _, H, I, rfl, q⟩
  · exact PySem.W.ge_data ra rb al dn room ⟨.bl _, H, I, rfl, q⟩
def rIsX : R2 := fun x y H Q => ((y = .non ∧ Q (.bl (decide (x = .non))) H) ∨ rIsB x y H Q) ∨ False
def rCmp (K : PySem.W.Frag) : CmpOp → R2
  | .Lt => fun x y H Q => (rI0 fun i j => .bl (decide (i < j))) x y H Q ∨ rOrd K (fun l _ => l) x y H Q
  | .LtE => fun x y H Q => (rI0 fun i j => .bl (decide (i ≤ j))) x y H Q ∨ rOrd K (fun _ g => !g) x y H Q
  | .Gt => fun x y H Q => (rI0 fun i j => .bl (decide (j < i))) x y H Q ∨ rOrd K (fun _ g => g) x y H Q
  | .GtE => fun x y H Q => (rI0 fun i j => .bl (decide (j ≤ i))) x y H Q ∨ rOrd K (fun l _ => !l) x y H Q
  | .Eq => rEqD K
  | .NotEq => rNeD K
  | .In => fun x y H Q => ((∃ i j, x = .str i ∧ y = .str j ∧ Q (.bl (!(Builtin.Str.occurrences j i 0 j.length 1).isEmpty)) H) ∨ rIn K false x y H Q) ∨ (rInD K x y H Q ∨ ∃ a o, y = .ref a ∧ DGet H a x o ∧ Q (.bl o.isSome) H)
  | .NotIn => fun x y H Q => ((∃ i j, x = .str i ∧ y = .str j ∧ Q (.bl (!(!(Builtin.Str.occurrences j i 0 j.length 1).isEmpty))) H) ∨ rIn K true x y H Q) ∨ (rNotInD K x y H Q ∨ ∃ a o, y = .ref a ∧ DGet H a x o ∧ Q (.bl (!o.isSome)) H)
  | .Is => fun x y H Q => (y = .non ∧ Q (.bl (decide (x = .non))) H) ∨ rIsB x y H Q
  | .IsNot => fun x y H Q => (y = .non ∧ Q (.bl (!decide (x = .non))) H) ∨ rNotB x y H Q
theorem op_inDict {X : Cx} (hu : X.A.units + 1 < cLine) : OpR X (compareOp .In) (fun x y H Q => ∃ a o, y = .ref a ∧ DGet H a x o ∧ Q (.bl o.isSome) H) := by
  intro pins s σ H x y v u Q I rx ry h
  obtain ⟨a, o, rfl, g, q⟩ := h
  cases ry
  exact d_in hu I g rx fun s' I' => ⟨.bl _, H, I', rfl, q⟩
theorem op_notInDict {X : Cx} (hu : X.A.units + 1 < cLine) : OpR X (compareOp .NotIn) (fun x y H Q => ∃ a o, y = .ref a ∧ DGet H a x o ∧ Q (.bl (!o.isSome)) H) := by
  intro pins s σ H x y v u Q I rx ry h
  obtain ⟨a, o, rfl, g, q⟩ := h
  cases ry
  exact d_notIn hu I g rx fun s' I' => ⟨.bl _, H, I', rfl, q⟩
theorem op_cmp {X : Cx} (hu : X.A.units + 65 < cLine) : ∀ o : CmpOp, OpR X (compareOp o) (rCmp X.K o)
  | .Lt => op_lt.or (op_ord hu (.inl ⟨rfl, rfl⟩))
  | .LtE => op_le.or (op_ord hu (.inr (.inl ⟨rfl, rfl⟩)))
  | .Gt => op_gt.or (op_ord hu (.inr (.inr (.inl ⟨rfl, rfl⟩))))
  | .GtE => op_ge.or (op_ord hu (.inr (.inr (.inr ⟨rfl, rfl⟩))))
  | .Eq => op_eqD (by omega)
  | .NotEq => op_neD (by omega)
  | .In => (op_in_str.or op_in_seq).or ((op_inD hu).or (op_inDict (by omega)))
  | .NotIn => (op_notin_str.or op_notIn_seq).or ((op_notInD hu).or (op_notInDict (by omega)))
  | .Is => op_isN.or op_isBl
  | .IsNot => op_notN.or op_notBl
theorem flat_v {K : KH} {F : Hp} {x : W} {v : V} (h : flatW x = true) (r : Rep K F x v) : flatV v = true := by
  cases r <;> first | rfl | exact h
theorem flat_vs {K : KH} {F : Hp} : ∀ {xs : List W} {vs : List V}, xs.all flatW = true → RepL K F xs vs → vs.all flatV = true
  | _, _, _, .nil => rfl
  | x :: xs, v :: vs, h, .cons a b => by
    rw [List.all_cons, Bool.and_eq_true] at h
    rw [List.all_cons, flat_v h.1 a, flat_vs h.2 b]
    rfl
/-- == of flat values, as data -/
theorem eqV_data {K : KH} {S : Sto} {H : Hp} {x y : W} {vx vy : V} {d e : PyData} (hx : Vw S x d) (hy : Vw S y e) (fx : flatW x = true) (fy : flatW y = true) (rx : Rep K (fz S H) x vx) (ry : Rep K (fz S H) y vy) :
    eqV vx vy = PyData.eqv d e := by
  cases rx <;> first
    | (cases hx; cases ry <;> first
        | (cases hy; first | rfl | (simp [eqV, PyData.eqv]; done) | (simp [eqV, PyData.eqv, Bool.beq_comm]; done))
        | exact absurd (show false = true from fy) Bool.false_ne_true)
    | exact absurd (show false = true from fx) Bool.false_ne_true
theorem inV_data {K : KH} {S : Sto} {H : Hp} {x : W} {vx : V} {d : PyData} (hx : Vw S x d) (fx : flatW x = true) (rx : Rep K (fz S H) x vx) : ∀ {ws : List W} {vs : List V} {ds : List PyData}, VwL S ws ds → ws.all flatW = true → RepL K (fz S H) ws vs →
    inV vx vs = ds.any fun z => PyData.eqv z d
  | _, _, _, .nil, _, .nil => rfl
  | w :: ws, v :: vs, e :: ds, .cons a b, h, .cons p q => by
    rw [List.all_cons, Bool.and_eq_true] at h
    have ih := inV_data hx fx rx b h.2 q
    unfold inV at ih ⊢
    rw [List.any_cons, List.any_cons, ih, eqV_data a hx h.1 fx p rx]
theorem isN_v {K : KH} {F : Hp} {x : W} {v : V} (r : Rep K F x v) : isN x = decide (v = .non) := by
  cases r <;> rfl
/-- a comparison's wish -/
def CmpS (C : Ctx) (g : W → W → Sto → (Bool → Prop) → Prop) (r : R2) : Prop := ∀ (x y : W) (vx vy : V) (S : Sto) (H : Hp) (Q : Bool → Prop) (Q' : VK), StoOk C.K S H → Rep C.K (fz S H) x vx → Rep C.K (fz S H) y vy →
  g x y S Q → (∀ b, Q b → Q' (.bl b) H) → r vx vy H Q'
theorem Vw.eqOk {S : Sto} {x : W} {d : PyData} (h : Vw S x d) : True := trivial
theorem cmps {C : Ctx} (o : CmpOp) : CmpS C (cmpW o) (rCmp C.K.K o) := by
  intro x y vx vy S H Q Q' s rx ry g k
  unfold cmpW at g
  split at g
  · cases rx; cases ry; exact .inl ⟨_, _, rfl, rfl, k _ g⟩
  · cases rx; cases ry; exact .inl ⟨_, _, rfl, rfl, k _ g⟩
  · cases rx; cases ry; exact .inl ⟨_, _, rfl, rfl, k _ g⟩
  · cases rx; cases ry; exact .inl ⟨_, _, rfl, rfl, k _ g⟩
  · obtain ⟨d, e, hd, he, al, dn, sd, se, q⟩ := g
    exact .inr ⟨d, e, hd.dp s rx, he.dp s ry, al, dn, sd, se, k _ q⟩
  · obtain ⟨d, e, hd, he, al, dn, sd, se, q⟩ := g
    exact .inr ⟨d, e, hd.dp s rx, he.dp s ry, al, dn, sd, se, k _ q⟩
  · obtain ⟨d, e, hd, he, al, dn, sd, se, q⟩ := g
    exact .inr ⟨d, e, hd.dp s rx, he.dp s ry, al, dn, sd, se, k _ q⟩
  · obtain ⟨d, e, hd, he, al, dn, sd, se, q⟩ := g
    exact .inr ⟨d, e, hd.dp s rx, he.dp s ry, al, dn, sd, se, k _ q⟩
  · obtain ⟨d, e, hd, he, sd, se, q⟩ := g
    exact ⟨d, e, hd.dp s rx, he.dp s ry, sd, se, k _ q⟩
  · obtain ⟨d, e, hd, he, sd, se, q⟩ := g
    exact ⟨d, e, hd.dp s rx, he.dp s ry, sd, se, k _ q⟩
  · unfold inWk at g
    split at g
    · cases rx; cases ry
      exact .inl (.inl ⟨_, _, rfl, rfl, k _ g⟩)
    · obtain ⟨f1, f2, d, ds, hd, hds, q⟩ := g
      obtain ⟨a, us, rfl, ha, ra⟩ := tup_sq ry
      refine .inl (.inr ⟨a, us, rfl, .inr (.of ha), flat_v f1 rx, flat_vs f2 ra, ?_⟩)
      rw [inV_data hd f1 rx hds f2 ra]
      exact k _ q
    · rcases g with ⟨ws, d, ds, hw, hd, hds, sd, sds, q⟩ | ⟨o, ho, q⟩
      · obtain ⟨a, us, rfl, ha, ra⟩ := rdL_sq s ry hw
        exact .inr (.inl ⟨d, ds, hd.dp s rx, .lst ha.sq (hds.dp s ra), sd, sds, k _ q⟩)
      · obtain ⟨a, r, rfl, g, z⟩ := rdD_get s ry rx ho
        refine .inr (.inr ⟨a, r, rfl, g, ?_⟩)
        rcases z with ⟨rfl, rfl⟩ | ⟨w, v, rfl, rfl, _⟩
        · exact k _ q
        · exact k _ q
  · unfold inWk at g
    split at g
    · cases rx; cases ry
      exact .inl (.inl ⟨_, _, rfl, rfl, k _ g⟩)
    · obtain ⟨f1, f2, d, ds, hd, hds, q⟩ := g
      obtain ⟨a, us, rfl, ha, ra⟩ := tup_sq ry
      refine .inl (.inr ⟨a, us, rfl, .inr (.of ha), flat_v f1 rx, flat_vs f2 ra, ?_⟩)
      rw [inV_data hd f1 rx hds f2 ra]
      exact k _ q
    · rcases g with ⟨ws, d, ds, hw, hd, hds, sd, sds, q⟩ | ⟨o, ho, q⟩
      · obtain ⟨a, us, rfl, ha, ra⟩ := rdL_sq s ry hw
        exact .inr (.inl ⟨d, ds, hd.dp s rx, .lst ha.sq (hds.dp s ra), sd, sds, k _ q⟩)
      · obtain ⟨a, r, rfl, g, z⟩ := rdD_get s ry rx ho
        refine .inr (.inr ⟨a, r, rfl, g, ?_⟩)
        rcases z with ⟨rfl, rfl⟩ | ⟨w, v, rfl, rfl, _⟩
        · exact k _ q
        · exact k _ q
  · obtain ⟨b, hb, q⟩ := g
    unfold isW at hb
    split at hb
    · cases ry
      cases hb
      exact .inl ⟨rfl, by rw [isN_v rx] at q; exact k _ q⟩
    · cases rx; cases ry; cases hb
      exact .inr ⟨_, _, rfl, rfl, k _ q⟩
    · cases hb
  · obtain ⟨b, hb, q⟩ := g
    unfold isW at hb
    split at hb
    · cases ry
      cases hb
      exact .inl ⟨rfl, by rw [isN_v rx] at q; exact k _ q⟩
    · cases rx; cases ry; cases hb
      exact .inr ⟨_, _, rfl, rfl, k _ q⟩
    · cases hb

/-! ### subscripts -/
theorem atI_rep {K : KH} {F : Hp} {ws : List W} {vs : List V} {i : Int} {w : W} (r : RepL K F ws vs) (h : atI ws i = some w) : ∃ v, atI vs i = some v ∧ Rep K F w v := by
  unfold atI at h ⊢
  rw [← r.length]
  cases e : ixN ws.length i with
  | none => rw [e] at h; cases h
  | some j =>
    rw [e] at h
    obtain ⟨v, h1, h2⟩ := r.get (i := j) (w := w) h
    exact ⟨v, h1, h2⟩
def rIxD : R2 := fun x y H Q => ∃ a v, x = .ref a ∧ DGet H a y (some v) ∧ Q v H
theorem ix_dict {X : Cx} (hu : X.A.units + 1 < cLine) : IxR X rIxD := by
  intro value slice pins s σ H x y v u Q I rx ry h hs
  obtain ⟨a, w, rfl, g, q⟩ := h
  cases rx
  have hT := dict_typeIs I g
  unfold subscriptTail
  refine wpAny_bind ?_
  rw [getitemInPython_of_ne hT.not_modules]
  refine wpAny_bind (wpAny_specialOf hT PySem.F.slot_dict_getitem.lookup ?_)
  have fin : wpAny (model X.prog X.w) X.A (subscripted slice false (.ref a) u) (fun r s₃ => wpAny (model X.prog X.w) X.A (letTemporaryGo value (.ref a) r >>= fun _ => pure r) (EP X pins σ Q) X.xe s₃) X.xe s := by
    rw [hs]
    exact wpAny_operating (wpAny_mono (d_getItem hu I g ry fun w' s3 I3 rw' => (⟨w, H, I3, rw', q⟩ : EP X pins σ Q w' s3)) (fun r s₃ h₃ => wpAny_bind (wpAny_letTemporaryGo (wpAny_pure h₃))) fun _ _ x => x)
  first
    | exact wpAny_pure (wpAny_bind fin)
    | exact wpAny_bind (wpAny_pure (wpAny_bind fin))
    | exact wpAny_bind fin
def rIdx (K : PySem.W.Frag) : R2 := fun x y H Q => rIx K x y H Q ∨ rIxD x y H Q
theorem ix_all {X : Cx} (hu : X.A.units + 1 < cLine) : IxR X (rIdx X.K) := ix_seq.or (ix_dict hu)
theorem ops_idx {C : Ctx} : OpS C idxW (rIdx C.K.K) := by
  intro x y vx vy ρ σ S H Q Q' s rx ry g k
  unfold idxW at g
  split at g
  · cases rx; cases ry
    obtain ⟨hz, c, hc, q⟩ := g
    exact .inl (.inr (.inr ⟨_, _, c, rfl, rfl, hz, hc, k.give s (.str _) q⟩))
  · cases ry
    obtain ⟨w, hw, q⟩ := g
    obtain ⟨a, us, rfl, ha, ra⟩ := tup_sq rx
    obtain ⟨v, hv, rv⟩ := atI_rep ra hw
    exact .inl (.inr (.inl ⟨a, us, _, v, rfl, rfl, .of ha, hv, k.give s rv q⟩))
  · cases ry
    obtain ⟨w, hw, q⟩ := g
    obtain ⟨a, us, rfl, ha, ra⟩ := rdL_sq s.sto rx rfl
    obtain ⟨v, hv, rv⟩ := atI_rep ra hw
    exact .inl (.inl ⟨a, us, _, v, rfl, rfl, ha.sq, hv, k.give s rv q⟩)
  · rcases g with ⟨ws, i, w, hl, rfl, hw, q⟩ | ⟨w, hw, q⟩
    · cases ry
      obtain ⟨a, us, rfl, ha, ra⟩ := rdL_sq s.sto rx hl
      obtain ⟨v, hv, rv⟩ := atI_rep ra hw
      exact .inl (.inl ⟨a, us, _, v, rfl, rfl, ha.sq, hv, k.give s rv q⟩)
    · obtain ⟨a, r, rfl, g, z⟩ := rdD_get s.sto rx ry hw
      rcases z with ⟨h, _⟩ | ⟨w', v, h, rfl, rv⟩
      · cases h
      · cases h
        exact .inr ⟨a, v, rfl, g, k.give s rv q⟩
  · exact g.elim
/-- o[i] by values, for o[i] op= e -/
def rGet (K : PySem.W.Frag) : V → V → Hp → VK → Prop := fun x y H Q => (∃ p xs i v, x = .ref p ∧ y = .int i ∧ SqL K H p xs ∧ atI xs i = some v ∧ Q v H) ∨ rIxD x y H Q
theorem pget {X : Cx} (hu : X.A.units + 1 < cLine) : PGet X (rGet X.K) := by
  intro pins s σ H x y v u Q I rx ry h
  rcases h with ⟨p, xs, i, z, rfl, rfl, hq, he, q⟩ | ⟨a, w, rfl, g, q⟩
  · cases rx
    obtain ⟨t, rfl⟩ := ry
    obtain ⟨its, r, pl, hz⟩ := I.list hq
    obtain ⟨j, h1, h2, h3, h4, h5⟩ := atI_get he
    obtain ⟨w, ew, rw'⟩ := r.get h2
    have hl := r.length
    have hn := line63
    have fin : EP X pins σ Q w s := ⟨z, H, I, rw', q⟩
    by_cases h0 : 0 ≤ i
    · have hj : i.toNat = j := by
        rw [seqIndex_of h0 h5] at h1
        exact Option.some.inj h1
      exact wpAny_getItem_list pl.isList h0 (by omega) (by rw [hj]; simpa using ew) fin
    · have hj : (i + (its.toArray.size : Int)).toNat = j := by
        rw [seqIndex_neg (by omega) h4] at h1
        rw [List.size_toArray, ← hl]
        exact Option.some.inj h1
      exact wpAny_getItem_list_neg pl.isList (by omega) (by rw [List.size_toArray] <;> omega) (by omega) (by rw [hj]; simpa using ew) fin
  · cases rx
    exact d_getItem hu I g ry fun w' s3 I3 rw' => ⟨w, H, I3, rw', q⟩
/-- the value got is an int -/
theorem get_int {C : Ctx} {x y : W} {vx vy : V} {ρ : Env} {σ : L2.St} {S : Sto} {H : Hp} {Q : WK} {Q' : VK} (s : Sim C.K ρ σ S H) (rx : Rep C.K (fz S H) x vx) (ry : Rep C.K (fz S H) y vy) (hx : ∃ a, x = .ref a)
    (g : idxW x y S Q) (k : Kv C ρ σ S H Q Q') : rGet C.K.K vx vy H Q' := by
  obtain ⟨a, rfl⟩ := hx
  have h := ops_idx (C := C) (.ref a) y vx vy ρ σ S H Q Q' s rx ry g k
  cases rx
  rcases h with (h | h | h) | h
  · exact .inl h
  · unfold idxW at g
    rcases g with ⟨ws, i, w, hl, rfl, hw, q⟩ | ⟨w, hw, q⟩
    · cases ry
      obtain ⟨a', us, e, ha, ra⟩ := rdL_sq s.sto (.ref a) hl
      cases e
      obtain ⟨v, hv, rv⟩ := atI_rep ra hw
      exact .inl ⟨a, us, _, v, rfl, rfl, ha.sq, hv, k.give s rv q⟩
    · obtain ⟨a', r, e, g, z⟩ := rdD_get s.sto (.ref a) ry hw
      cases e
      rcases z with ⟨h, _⟩ | ⟨w', v, h, rfl, rv⟩
      · cases h
      · cases h
        exact .inr ⟨a, v, rfl, g, k.give s rv q⟩
  · obtain ⟨z, i, c, e, _⟩ := h
    cases e
  · exact .inr h

/-! ### slices -/
theorem cut_rep {K : KH} {F : Hp} {ws : List W} {vs : List V} {lo hi : Option Int} (r : RepL K F ws vs) : RepL K F (cutW ws lo hi) (cutV vs lo hi) := by
  unfold cutW cutV
  rw [r.length]
  exact (r.drop _).take _
def rSlc (K : PySem.W.Frag) : V → Option Int → Option Int → Hp → VK → Prop := fun x lo hi H Q => (rSlL K x lo hi H Q ∨ rSlA K x lo hi H Q) ∨ rSlS x lo hi H Q
theorem sl_all {X : Cx} : SlR X (rSlc X.K) := (sl_list.or sl_tupA).or sl_str
theorem slcs {C : Ctx} {live : Bool} {x : W} {vx : V} {lo hi : Option Int} {ρ : Env} {σ : L2.St} {S : Sto} {H : Hp} {Q : WK} {Q' : VK} (s : Sim C.K ρ σ S H) (rx : Rep C.K (fz S H) x vx)
    (g : slcW live x lo hi S Q) (k : Kv C ρ σ S H Q Q') : rSlc C.K.K vx lo hi H Q' := by
  unfold slcW at g
  split at g
  · cases rx
    exact .inr ⟨_, rfl, g.1, k.give s (.str _) g.2⟩
  · rename_i ws
    obtain ⟨a, us, rfl, ha, ra⟩ := tup_sq rx
    refine .inl (.inr ⟨a, us, rfl, .of ha, fun h => ?_, fun h => k.newTup s (cut_rep ra) g⟩)
    have e : cutW ws lo hi = ws := by
      unfold cutW
      rw [ra.length, h.1, h.2, List.drop_zero, Nat.sub_zero, ← ra.length]
      exact List.take_length
    rw [e] at g
    exact k.give s rx g
  · obtain ⟨ws, hw, q⟩ := g
    obtain ⟨a, us, rfl, ha, ra⟩ := rdL_sq s.sto rx hw
    exact .inl (.inl ⟨a, us, rfl, ha.sq, k.newLst s (cut_rep ra) q⟩)

/-! ### stores -/
def rSetD : TSet := fun o i v H Q => ∃ a H', o = .ref a ∧ DPut H a i v H' ∧ Q H'
theorem set_dict {X : Cx} (hu : X.A.units + 1 < cLine) : PSet X rSetD := by
  intro pins s σ H o i v ov iv u Q I ro ri rv h
  obtain ⟨a, H', rfl, g, q⟩ := h
  cases ro
  exact d_setItem hu I g ri rv fun s' I' => ⟨H', I', q⟩
def rSetX : TSet := fun o i v H Q => rSetL o i v H Q ∨ rSetD o i v H Q
theorem set_all {X : Cx} (hu : X.A.units + 1 < cLine) : PSet X rSetX := by
  intro pins s σ H o i v ov iv u Q I ro ri rv h
  rcases h with h | h
  · exact set_list pins s σ H o i v ov iv u Q I ro ri rv h
  · exact set_dict hu pins s σ H o i v ov iv u Q I ro ri rv h
theorem sets {C : Ctx} {x i w : W} {vx vi v : V} {ρ : Env} {σ : L2.St} {S : Sto} {H : Hp} {Q : Sto → Prop} {Q' : Hp → Prop} (s : Sim C.K ρ σ S H) (rx : Rep C.K (fz S H) x vx) (ri : Rep C.K (fz S H) i vi) (rw' : Rep C.K (fz S H) w v)
    (g : setW x i w S Q) (k : ∀ S' H', Sim C.K ρ σ S' H' → Same (fz S H) (fz S' H') → Q S' → Q' H') : rSetX vx vi v H Q' := by
  obtain ⟨a, rfl, g⟩ := g
  cases rx
  have fin : ∀ {ob ob' : Ob} {o : HO}, S a = some ob → ObR C.K (fz S H) H a ob' o → Q (sup S a ob') → Q' (upd H a o) := fun {ob ob' o} h r q => by
    have e : Same (fz S H) (fz (sup S a ob') (upd H a o)) := by
      rw [fz_put h]
      exact Same.refl _
    exact k _ _ (s.to e (s.sto.put h r)) e q
  rcases g with ⟨ws, j, n, hs, rfl, hn, q⟩ | ⟨kvs, kk, hs, hk, hl, q⟩ | ⟨kvs, ks, kk, hs, rfl, hk, hl, q⟩
  · cases ri
    obtain ⟨u, hu, r⟩ := s.sto.at' a _ hs
    obtain ⟨vs, rfl, r⟩ := r
    exact .inl ⟨a, vs, _, n, rfl, rfl, hu, by rw [← r.length]; exact hn, fin (ob' := .lst (ws.set n w)) hs ⟨_, rfl, r.set rw' n⟩ q⟩
  · obtain ⟨u, hu, r⟩ := s.sto.at' a _ hs
    obtain ⟨vs, rfl, r⟩ := r
    refine .inr ⟨a, _, rfl, .inl ⟨vs, kk, hu, keyW_v hk ri, by rw [← kvr_len r]; exact hl, rfl⟩, fin (ob' := .dk (setK kvs kk w)) hs ⟨_, rfl, kvr_put r rw'⟩ q⟩
  · obtain ⟨u, hu, r⟩ := s.sto.at' a _ hs
    obtain ⟨vs, rfl, r⟩ := r
    obtain ⟨b, us, rfl, hb, ru⟩ := tup_sq ri
    refine .inr ⟨a, _, rfl, .inr ⟨vs, kk, b, hu, rfl, by rw [hb, keysW_v hk ru], by rw [← kvr_len r]; exact hl, rfl⟩, fin (ob' := .dt (setK kvs kk w)) hs ⟨_, rfl, kvr_put r rw'⟩ q⟩
end MP

set_option Elab.async false
set_option linter.all false
set_option maxRecDepth 100000
set_option maxHeartbeats 4000000
/-! MP5: built-ins and methods by value. -/
namespace MP
open PySem PySem.Spec PyProof.Rows L2

theorem intsW_v {K : KH} {F : Hp} : ∀ {ws : List W} {ns : List Int} {vs : List V}, intsW ws = some ns → RepL K F ws vs → vs = ns.map V.int
  | [], _, _, h, .nil => by cases h; rfl
  | w :: ws, ns, _, h, .cons a b => by
    cases w with
    | int i =>
      cases a
      unfold intsW at h
      cases e : intsW ws with
      | none => rw [e] at h; cases h
      | some ms =>
        rw [e] at h
        cases h
        rw [intsW_v e b]
        rfl
    | _ => cases h
theorem blsW_v {K : KH} {F : Hp} : ∀ {ws : List W} {ns : List Bool} {vs : List V}, blsW ws = some ns → RepL K F ws vs → vs = ns.map V.bl
  | [], _, _, h, .nil => by cases h; rfl
  | w :: ws, ns, _, h, .cons a b => by
    cases w with
    | bl i =>
      cases a
      unfold blsW at h
      cases e : blsW ws with
      | none => rw [e] at h; cases h
      | some ms =>
        rw [e] at h
        cases h
        rw [blsW_v e b]
        rfl
    | _ => cases h
def rMaxD (K : PySem.W.Frag) : List V → Hp → VK → Prop := fun vs H Q => ∃ (a : Addr) (xs : List V) (d : PyData) (ds : List PyData), vs = [.ref a] ∧ SqL K H a xs ∧ DpAll K H xs (d :: ds) ∧ PySem.W.AlikeAll (d :: ds) ∧ SeqAt.shaped (.list (d :: ds)) = true ∧
  ∀ (i : Nat) x, xs[i]? = some x → (d :: ds)[i]? = some (PySem.W.maxD d ds) → Q x H
/-- is it a built-in function or a class -/
def Blt.val : Blt → Value
  | .int => .type "int" | .str => .type "str" | .list => .type "list" | .tuple => .type "tuple"
  | .len => .builtin "len" | .abs => .builtin "abs" | .min2 => .builtin "min" | .max2 => .builtin "max" | .minL => .builtin "min" | .maxL => .builtin "max" | .maxD => .builtin "max"
  | .sum => .builtin "sum" | .all => .builtin "all" | .any => .builtin "any" | .sortD => .builtin "sorted"
def rSortD (K : PySem.W.Frag) : List V → Hp → VK → Prop := fun vs H Q => ∃ (a : Addr) (xs : List V) (ds : List PyData), vs = [.ref a] ∧ SqL K H a xs ∧ DpAll K H xs ds ∧ PySem.W.AllAlike ds ∧ PySem.W.Sortable ds ∧ SeqAt.shaped (.list ds) = true ∧
  ∀ p, H p = none → Q (.ref p) (upd H p (.lst (((xs.zip ds).mergeSort (PySem.W.dataLe false fun q : V × PyData => q.2)).map (·.1))))
def rTupleX (K : PySem.W.Frag) : List V → Hp → VK → Prop := fun xs H Q => ∃ p ys, xs = [.ref p] ∧ ((SqL K H p ys ∧ ∀ l, H l = none → Q (.ref l) (upd H l (.tup ys))) ∨ (SqT K H p ys ∧ Q (.ref p) H))
def rBlt (K : PySem.W.Frag) : Blt → List V → Hp → VK → Prop
  | .len => fun xs H Q => (∃ x n, xs = [x] ∧ LenV K x H n ∧ Q (.int n) H) ∨ (∃ a kvs, xs = [.ref a] ∧ Rd H a (.dK kvs) ∧ Q (.int (kvs.length : Nat)) H) ∨ ∃ a kvs, xs = [.ref a] ∧ Rd H a (.dT kvs) ∧ Q (.int (kvs.length : Nat)) H
  | .abs => fun xs H Q => ∃ i, xs = [.int i] ∧ Q (.int (if i < 0 then -i else i)) H
  | .min2 => fun xs H Q => ∃ i j, xs = [.int i, .int j] ∧ Q (.int (if j < i then j else i)) H
  | .max2 => fun xs H Q => ∃ i j, xs = [.int i, .int j] ∧ Q (.int (if j > i then j else i)) H
  | .minL => rMin K
  | .maxL => rMax K
  | .maxD => rMaxD K
  | .sum => rSum K
  | .all => rAll K
  | .any => rAny K
  | .int => fun xs H Q => (∃ i, xs = [.int i] ∧ Q (.int i) H) ∨ ∃ k, xs = [.bl k] ∧ Q (.int (if k then 1 else 0)) H
  | .str => fun xs H Q => ∃ i, xs = [.int i] ∧ i.natAbs.log2 < 1920 ∧ Q (.str (toString i)) H
  | .list => fun xs H Q => ∃ p ys, xs = [.ref p] ∧ (SqL K H p ys ∨ SqT K H p ys) ∧ ∀ l, H l = none → Q (.ref l) (upd H l (.lst ys))
  | .tuple => rTupleX K
  | .sortD => rSortD K
theorem call_lenK {X : Cx} : CallR X (.builtin "len") (fun xs H Q => ∃ a kvs, xs = [.ref a] ∧ Rd H a (.dK kvs) ∧ Q (.int (kvs.length : Nat)) H) := by
  intro pins s σ H xs us Q I r h
  obtain ⟨a, kvs, rfl, e, q⟩ := h
  obtain ⟨u, rfl, ru⟩ := vals1 r
  cases ru
  exact d_len I e fun t s' I' => ⟨.int _, H, I', ⟨_, rfl⟩, q⟩
theorem call_lenT {X : Cx} : CallR X (.builtin "len") (fun xs H Q => ∃ a kvs, xs = [.ref a] ∧ Rd H a (.dT kvs) ∧ Q (.int (kvs.length : Nat)) H) := by
  intro pins s σ H xs us Q I r h
  obtain ⟨a, kvs, rfl, e, q⟩ := h
  obtain ⟨u, rfl, ru⟩ := vals1 r
  cases ru
  obtain ⟨z, hd, xs, kt, dd⟩ := dt_rd I.hok e
  have hl : xs.length = kvs.length := (Paired.length kt).symm
  have hs : (sizeLine : Nat) < 2 ^ 63 := line63
  refine PySem.call_len_dictH hd dd (by omega) ?_
  rw [hl]
  exact ⟨.int _, H, I.tok _, ⟨_, rfl⟩, q⟩
theorem getElem_getD {xs : List PyData} {i : Nat} (h : i < xs.length) : xs[i]? = some (xs.getD i .none) := by
  rw [List.getD_eq_getElem?_getD, List.getElem?_eq_getElem h]; rfl
theorem can_mem : ∀ {ds : List PyData}, PyData.canLayAll0 ds = true → ∀ d ∈ ds, d.canLay0 = true
  | e :: ds, h, d, hd => by
    have h' : (e.canLay0 && PyData.canLayAll0 ds) = true := h
    rw [Bool.and_eq_true] at h'
    rcases List.mem_cons.mp hd with rfl | hd
    · exact h'.1
    · exact can_mem h'.2 d hd
theorem call_maxD {X : Cx} (hc : X.calm = true) (hu : X.A.units + 66 < cLine) : CallR X (.builtin "max") (rMaxD X.K) := by
  intro pins s σ H vs us Q I r h
  obtain ⟨a, xs, d, ds, rfl, hs, hd, al, sh, q⟩ := h
  obtain ⟨its, rv, hl, hz⟩ := I.list hs
  rw [Vals.ref1 r]
  obtain ⟨as, ra⟩ := Dp.readsAll I (d :: ds) xs its hd rv
  have dep : (PyData.list (d :: ds)).depth ≤ 64 := SeqAt.depth_of_shaped sh
  have can : PyData.canLayAll0 (d :: ds) = true := SeqAt.canLay_of_shaped sh
  have dep2 : PyData.depthAll (d :: ds) + 1 ≤ 64 := dep
  refine PySem.W.max_list_data (vs := its.toArray) (as := as) (I.ok.hd hc) hl.isList (by simpa using ra) al (by omega) fun i v h' tk bs hv rd hk => ?_
  have hv' : its[i]? = some v := by simpa using hv
  obtain ⟨bs2, r2, hi, hm, _⟩ := PySem.W.readsAll_at ra i v hv'
  have e := (PySem.Reads.unique (PySem.W.reads_keeps hk r2) _ _ rd).1
  have hx : i < xs.length := by
    have e1 := rv.length
    have := (List.getElem?_eq_some_iff.mp hv').1
    omega
  obtain ⟨u, hu2, ru⟩ := Vals.get rv (List.getElem?_eq_getElem hx)
  rw [hv'] at hu2
  cases hu2
  exact ⟨xs[i], H, I.kept (t' := tk) fun b o e => hk b o e, ru, q i _ (List.getElem?_eq_getElem hx) (by rw [getElem_getD hi, e])⟩
theorem dep_mem : ∀ {ds : List PyData} {d : PyData}, d ∈ ds → d.depth ≤ PyData.depthAll ds
  | e :: ds, d, h => by
    show _ ≤ max e.depth (PyData.depthAll ds)
    rcases List.mem_cons.mp h with rfl | h
    · omega
    · have := dep_mem h; omega
theorem dpAll_len {K : PySem.W.Frag} {H : Hp} : ∀ {xs : List V} {ds : List PyData}, DpAll K H xs ds → xs.length = ds.length
  | _, _, .nil => rfl
  | _, _, .cons _ r => by rw [List.length_cons, List.length_cons, dpAll_len r]
theorem each_zip {X : Cx} {h : Heap} : ∀ {xs : List V} {its : List Value} {ds : List PyData} {as : List Addr}, Vals xs its → PySem.ReadsAll h its ds as → PySem.W.EachIs (fun u (q : V × PyData) => RelV q.1 u) its (xs.zip ds) ∧ PySem.W.EachIs (fun u (q : V × PyData) => ∃ as, PySem.Reads h u q.2 as) its (xs.zip ds)
  | _, _, _, _, .nil, .nil => ⟨.nil, .nil⟩
  | _, _, _, _, .cons a r, .cons b t => by
    obtain ⟨h1, h2⟩ := each_zip (X := X) r t
    exact ⟨.cons a h1, .cons ⟨_, b⟩ h2⟩
theorem each_vals : ∀ {out : List Value} {qs : List (V × PyData)}, PySem.W.EachIs (fun u (q : V × PyData) => RelV q.1 u) out qs → Vals (qs.map (·.1)) out
  | _, _, .nil => .nil
  | _, _, .cons a r => .cons a (each_vals r)
theorem call_sortD {X : Cx} (hc : X.calm = true) (hu : X.A.units + 66 < cLine) : CallR X (.builtin "sorted") (rSortD X.K) := by
  intro pins s σ H vs us Q I r h
  obtain ⟨a, xs, ds, rfl, hs, hd, al, so, sh, q⟩ := h
  obtain ⟨its, rv, hl, hz⟩ := I.list hs
  rw [Vals.ref1 r]
  obtain ⟨as, ra⟩ := Dp.readsAll I ds xs its hd rv
  have dep : (PyData.list ds).depth ≤ 64 := SeqAt.depth_of_shaped sh
  have dep2 : PyData.depthAll ds + 1 ≤ 64 := dep
  have hlen := dpAll_len hd
  obtain ⟨e1, e2⟩ := each_zip (X := X) rv ra
  have hm : (xs.zip ds).map (fun q : V × PyData => q.2) = ds := List.map_snd_zip (by omega)
  have hzl : (xs.zip ds).length = xs.length := by rw [List.length_zip]; omega
  refine PySem.W.sorted_data (bs := xs.zip ds) (enc := fun q : V × PyData => q.2) (vs := its) hl.isList e1 e2 (by rw [hm]; exact al) (by rw [hm]; exact so) (by rw [hzl]; exact hz) (fun b hb => ?_) fun out ho eo => ?_
  · have : b.2 ∈ ds := by rw [← hm]; exact List.mem_map.mpr ⟨b, hb, rfl⟩
    have := dep_mem this
    omega
  · obtain ⟨ep, he'⟩ := PyProof.Rows.sortedAll_at s.heap its out.toArray
    have hv := each_vals eo
    refine ⟨.ref _, upd H (s.heap.objs.size + 1) (.lst _), I.laid (t' := s.toks) (fun _ _ => PyProof.Rows.sortedAll_old) (Nat.le_succ _) ⟨?_, out, ep, hv, he'⟩, rfl, q _ (I.hok.fresh (Nat.le_succ _))⟩
    rw [hv.length, ho, hzl]; exact hz
theorem call_blt {X : Cx} (hc : X.calm = true) (hu : X.A.units + 66 < cLine) : ∀ b : Blt, CallR X b.val (rBlt X.K b)
  | .len => call_len.or (call_lenK.or call_lenT)
  | .abs => call_abs
  | .min2 => call_min2 hc
  | .max2 => call_max2 hc
  | .minL => cr_min hc
  | .maxL => cr_max hc
  | .maxD => call_maxD hc hu
  | .sum => cr_sum hc
  | .all => cr_all hc
  | .any => cr_any hc
  | .int => call_int1
  | .str => call_str_int
  | .list => call_list_of
  | .tuple => call_tuple_of
  | .sortD => call_sortD hc hu
theorem repL_zip {K : KH} {F : Hp} : ∀ {ws : List W} {vs : List V}, RepL K F ws vs → ∀ ds : List PyData, ∃ zs : List (W × V × PyData), ws.zip ds = zs.map (fun z => (z.1, z.2.2)) ∧ vs.zip ds = zs.map (fun z => (z.2.1, z.2.2)) ∧ ∀ z ∈ zs, Rep K F z.1 z.2.1
  | _, _, .nil, ds => ⟨[], by simp, by simp, fun z h => by cases h⟩
  | _, _, .cons _ _, [] => ⟨[], rfl, rfl, fun z h => by cases h⟩
  | w :: ws, v :: vs, .cons a r, d :: ds => by
    obtain ⟨zs, h1, h2, h3⟩ := repL_zip r ds
    refine ⟨(w, v, d) :: zs, by rw [List.zip_cons_cons, h1]; rfl, by rw [List.zip_cons_cons, h2]; rfl, fun z h => ?_⟩
    rcases List.mem_cons.mp h with rfl | h
    · exact a
    · exact h3 z h
theorem repL_of {K : KH} {F : Hp} : ∀ {zs : List (W × V × PyData)}, (∀ z ∈ zs, Rep K F z.1 z.2.1) → RepL K F (zs.map (·.1)) (zs.map (·.2.1))
  | [], _ => .nil
  | z :: zs, h => .cons (h z (by simp)) (repL_of fun y hy => h y (by simp [hy]))
theorem sort_rep {K : KH} {F : Hp} {ws : List W} {vs : List V} (r : RepL K F ws vs) (ds : List PyData) : RepL K F (sortW ws ds) (((vs.zip ds).mergeSort (PySem.W.dataLe false fun q : V × PyData => q.2)).map (·.1)) := by
  obtain ⟨zs, h1, h2, h3⟩ := repL_zip r ds
  unfold sortW
  rw [h1, h2]
  have e1 : (zs.map (fun z => (z.1, z.2.2))).mergeSort dLe = (zs.mergeSort (PySem.W.dataLe false fun z : W × V × PyData => z.2.2)).map (fun z => (z.1, z.2.2)) := (List.map_mergeSort (f := fun z : W × V × PyData => (z.1, z.2.2)) fun _ _ _ _ => rfl).symm
  have e2 : (zs.map (fun z => (z.2.1, z.2.2))).mergeSort (PySem.W.dataLe false fun q : V × PyData => q.2) = (zs.mergeSort (PySem.W.dataLe false fun z : W × V × PyData => z.2.2)).map (fun z => (z.2.1, z.2.2)) := (List.map_mergeSort (f := fun z : W × V × PyData => (z.2.1, z.2.2)) fun _ _ _ _ => rfl).symm
  rw [e1, e2, List.map_map, List.map_map]
  exact repL_of fun z hz => h3 z ((List.mergeSort_perm _ _).mem_iff.mp hz)
theorem blts {C : Ctx} {live : Bool} (b : Blt) {ws : List W} {vs : List V} {ρ : Env} {σ : L2.St} {S : Sto} {H : Hp} {Q : WK} {Q' : VK} (s : Sim C.K ρ σ S H) (r : RepL C.K (fz S H) ws vs)
    (g : bltW live b ws S Q) (k : Kv C ρ σ S H Q Q') : rBlt C.K.K b vs H Q' := by
  unfold bltW at g
  split at g
  · obtain _ | ⟨r1, _ | _⟩ := r
    cases r1
    exact .inl ⟨_, _, rfl, ⟨g.1, rfl⟩, k.give s (.int _) g.2⟩
  · obtain _ | ⟨r1, _ | _⟩ := r
    rcases g with ⟨us, hu, q⟩ | ⟨a, kvs, rfl, hk, q⟩ | ⟨a, kvs, rfl, hk, q⟩
    · obtain ⟨a, zs, rfl, ha, ra⟩ := rdQ_sq s.sto r1 hu
      refine .inl ⟨_, us.length, rfl, ?_, k.give s (.int _) q⟩
      rcases ha with ha | ha
      · exact .inl ⟨zs, ha, ra.length⟩
      · exact .inr ⟨zs, ha, ra.length⟩
    · cases r1
      obtain ⟨vs, h1, h2⟩ := cell_obK s.sto hk
      exact .inr (.inl ⟨a, vs, rfl, h1, by rw [← kvr_len h2]; exact k.give s (.int _) q⟩)
    · cases r1
      obtain ⟨vs, h1, h2⟩ := cell_obT s.sto hk
      exact .inr (.inr ⟨a, vs, rfl, h1, by rw [← kvr_len h2]; exact k.give s (.int _) q⟩)
  · obtain _ | ⟨r1, _ | _⟩ := r
    cases r1
    exact ⟨_, rfl, k.give s (.int _) g⟩
  · obtain _ | ⟨r1, _ | ⟨r2, _ | _⟩⟩ := r
    cases r1; cases r2
    exact ⟨_, _, rfl, k.give s (.int _) g⟩
  · obtain _ | ⟨r1, _ | ⟨r2, _ | _⟩⟩ := r
    cases r1; cases r2
    exact ⟨_, _, rfl, k.give s (.int _) g⟩
  · obtain _ | ⟨r1, _ | _⟩ := r
    obtain ⟨us, ns, hu, hn, h0, q⟩ := g
    obtain ⟨a, zs, rfl, ha, ra⟩ := rdL_sq s.sto r1 hu
    obtain rfl := intsW_v hn ra
    exact ⟨a, ns, rfl, ha.sq, h0, fun m hm hl => k.give s (.int _) (q m hm hl)⟩
  · obtain _ | ⟨r1, _ | _⟩ := r
    obtain ⟨us, ns, hu, hn, h0, q⟩ := g
    obtain ⟨a, zs, rfl, ha, ra⟩ := rdL_sq s.sto r1 hu
    obtain rfl := intsW_v hn ra
    exact ⟨a, ns, rfl, ha.sq, h0, fun m hm hl => k.give s (.int _) (q m hm hl)⟩
  · obtain _ | ⟨r1, _ | _⟩ := r
    obtain ⟨us, d, ds, hu, hv, al, sh, q⟩ := g
    obtain ⟨a, zs, rfl, ha, ra⟩ := rdL_sq s.sto r1 hu
    refine ⟨a, zs, d, ds, rfl, ha.sq, hv.dp s.sto ra, al, sh, fun i x hx hd => ?_⟩
    obtain ⟨w, hw, rw'⟩ := ra.get' hx
    exact k.give s rw' (q i w hw hd)
  · obtain _ | ⟨r1, _ | _⟩ := r
    obtain ⟨us, ns, hu, hn, q⟩ := g
    obtain ⟨a, zs, rfl, ha, ra⟩ := rdL_sq s.sto r1 hu
    obtain rfl := intsW_v hn ra
    exact ⟨a, ns, rfl, ha.sq, k.give s (.int _) q⟩
  · obtain _ | ⟨r1, _ | _⟩ := r
    obtain ⟨us, ns, hu, hn, q⟩ := g
    obtain ⟨a, zs, rfl, ha, ra⟩ := rdL_sq s.sto r1 hu
    obtain rfl := blsW_v hn ra
    exact ⟨a, ns, rfl, ha.sq, k.give s (.bl _) q⟩
  · obtain _ | ⟨r1, _ | _⟩ := r
    obtain ⟨us, ns, hu, hn, q⟩ := g
    obtain ⟨a, zs, rfl, ha, ra⟩ := rdL_sq s.sto r1 hu
    obtain rfl := blsW_v hn ra
    exact ⟨a, ns, rfl, ha.sq, k.give s (.bl _) q⟩
  · obtain _ | ⟨r1, _ | _⟩ := r
    cases r1
    exact .inl ⟨_, rfl, k.give s (.int _) g⟩
  · obtain _ | ⟨r1, _ | _⟩ := r
    cases r1
    exact .inr ⟨_, rfl, k.give s (.int _) g⟩
  · obtain _ | ⟨r1, _ | _⟩ := r
    cases r1
    exact ⟨_, rfl, g.1, k.give s (.str _) g.2⟩
  · obtain _ | ⟨r1, _ | _⟩ := r
    obtain ⟨us, hu, q⟩ := g
    obtain ⟨a, zs, rfl, ha, ra⟩ := rdQ_sq s.sto r1 hu
    exact ⟨a, zs, rfl, ha, k.newLst s ra q⟩
  · obtain _ | ⟨r1, _ | _⟩ := r
    obtain ⟨us, hu, q⟩ := g
    rename_i x v
    by_cases hx : x = .tup us
    · subst hx
      obtain ⟨a, zs, rfl, ha, ra⟩ := tup_sq r1
      exact ⟨a, zs, rfl, .inr ⟨.of ha, k.give s r1 q⟩⟩
    · have hl : rdL S x = some us := by
        cases x with
        | tup ws => exact absurd (congrArg W.tup (Option.some.inj hu)) hx
        | _ => exact hu
      obtain ⟨a, zs, rfl, ha, ra⟩ := rdL_sq s.sto r1 hl
      exact ⟨a, zs, rfl, .inl ⟨ha.sq, k.newTup s ra q⟩⟩
  · obtain _ | ⟨r1, _ | _⟩ := r
    obtain ⟨us, ds, hu, hv, al, so, sh, q⟩ := g
    obtain ⟨a, zs, rfl, ha, ra⟩ := rdL_sq s.sto r1 hu
    exact ⟨a, zs, ds, rfl, ha.sq, hv.dp s.sto ra, al, so, sh, k.newLst s (sort_rep ra ds) q⟩
  · exact g.elim

/-! ### methods -/
theorem strsW_v {K : KH} {F : Hp} : ∀ {ws : List W} {ns : List Str} {vs : List V}, strsW ws = some ns → RepL K F ws vs → vs = ns.map V.str
  | [], _, _, h, .nil => by cases h; rfl
  | w :: ws, ns, _, h, .cons a b => by
    cases w with
    | str i =>
      cases a
      unfold strsW at h
      cases e : strsW ws with
      | none => rw [e] at h; cases h
      | some ms =>
        rw [e] at h
        cases h
        rw [strsW_v e b]
        rfl
    | _ => cases h
def rExtendR (K : PySem.W.Frag) : V → List V → Hp → VK → Prop := fun x vs H Q => ∃ l b xs zs, x = .ref l ∧ vs = [.ref b] ∧ H l = some (.lst xs) ∧ SqR K H b zs ∧ xs.length + zs.length ≤ sizeLine ∧ Q .non (upd H l (.lst (xs ++ zs)))
theorem mt_extendR {X : Cx} : MtM X "list.extend" (rExtendR X.K) := by
  intro pins s σ H x vs v us Q I rx rv h
  obtain ⟨l, b, xs, zs, rfl, rfl, hH, hB, hz, q⟩ := h
  cases rx
  obtain ⟨u, rfl, ru⟩ := rv.one
  cases ru
  obtain ⟨z, its, n, r, hl, e⟩ := I.lstM hH
  obtain ⟨z2, its2, n2, r2, hl2, e2⟩ := lstR I hB
  have hsz : its.toArray.size + its2.toArray.size ≤ sizeLine := by rw [List.size_toArray, List.size_toArray]; omega
  have hlong : ¬ (!its.toArray.isEmpty && Builtin.List.listTooLong (its.toArray.size + its2.toArray.size)) = true := by
    rw [notLongL hsz, Bool.and_false]
    exact Bool.false_ne_true
  refine call_meets F.slot_list_extend ⟨_, e, rfl⟩ F.entry_list_extend (F.args_list_extend_2 _ _)
    (AutoSeq1.list_extend_list_list_0 l its.toArray n b its2.toArray n2 hlong (by rw [List.size_toArray]; omega) (by omega)) ⟨e, e2, ?_⟩
  refine ⟨.non, _, I.lset (its' := its ++ its2) hH e (by simp) (r.append r2) ?_, rfl, q⟩
  rw [List.length_append]
  omega
def Mth.nm : Mth → Str
  | .append => "append" | .pop => "pop" | .popAt => "pop" | .extend => "extend" | .clear => "clear" | .join => "join"
def Mth.id : Mth → String
  | .append => "list.append" | .pop => "list.pop" | .popAt => "list.pop" | .extend => "list.extend" | .clear => "list.clear" | .join => "str.join"
theorem Mth.plain : ∀ m : Mth, PlainAttrs m.T
  | .append | .pop | .popAt | .extend | .clear => PySem.F.plainAttrs_list
  | .join => PySem.F.plainAttrs_str
theorem Mth.slot : ∀ m : Mth, Slot m.T m.nm m.id
  | .append => PySem.F.slot_list_append | .pop => PySem.F.slot_list_pop | .popAt => PySem.F.slot_list_pop | .extend => PySem.F.slot_list_extend | .clear => PySem.F.slot_list_clear
  | .join => PySem.F.slot_str_join
theorem Mth.type : ∀ m : Mth, typeOf (.builtin m.id) = pure (.type "method_descriptor")
  | .append => PySem.F.type_list_append | .pop => PySem.F.type_list_pop | .popAt => PySem.F.type_list_pop | .extend => PySem.F.type_list_extend | .clear => PySem.F.type_list_clear
  | .join => PySem.F.type_str_join
def rMth (K : PySem.W.Frag) : Mth → V → List V → Hp → VK → Prop
  | .append => rAppend
  | .pop => rPop
  | .popAt => rPopAt
  | .extend => rExtendR K
  | .clear => rClear
  | .join => fun x xs H Q => ∃ a p, ∃ ys : List Str, x = .str a ∧ xs = [.ref p] ∧ (SqL K H p (ys.map V.str) ∨ SqT K H p (ys.map V.str)) ∧
      (ys.map Str.length).sum + ys.length * a.length ≤ 16777216 ∧ Q (.str (Txt.join a ys)) H
theorem mt_all {X : Cx} : ∀ m : Mth, MtR X m.id (rMth X.K m)
  | .append => mt_append
  | .pop => mt_pop
  | .popAt => mt_popAt
  | .extend => mt_extendR
  | .clear => mt_clear
  | .join => mt_join
theorem rcvs {C : Ctx} {m : Mth} {x : W} {vx : V} {S : Sto} {H : Hp} (s : StoOk C.K S H) (rx : Rep C.K (fz S H) x vx) (g : rcvW m x S) : tyV C.K.K m.T vx H := by
  unfold rcvW at g
  split at g
  · rename_i h
    cases rx
    exact h
  · rename_i h
    cases rx
    obtain ⟨ws, e⟩ := g
    obtain ⟨u, hu, vs, rfl, r⟩ := s.at' _ _ e
    exact .inl ⟨h, vs, .of hu⟩
  · exact g.elim
theorem mths {C : Ctx} (m : Mth) {x : W} {vx : V} {ws : List W} {vs : List V} {ρ : Env} {σ : L2.St} {S : Sto} {H : Hp} {Q : WK} {Q' : VK} (s : Sim C.K ρ σ S H) (rx : Rep C.K (fz S H) x vx) (r : RepL C.K (fz S H) ws vs)
    (g : mthW m x ws S Q) (k : Kv C ρ σ S H Q Q') : rMth C.K.K m vx vs H Q' := by
  have fin : ∀ {a : Addr} {ob ob' : Ob} {o : HO} {w : W} {v : V}, S a = some ob → ObR C.K (fz S H) H a ob' o → Rep C.K (fz S H) w v → Q w (sup S a ob') → Q' v (upd H a o) := fun {a ob ob' o w v} h r rv q => by
    have e : Same (fz S H) (fz (sup S a ob') (upd H a o)) := by
      rw [fz_put h]
      exact Same.refl _
    exact k _ _ _ _ (s.to e (s.sto.put h r)) e (rv.mono e) q
  unfold mthW at g
  split at g
  · obtain _ | ⟨r1, _ | _⟩ := r
    cases rx
    obtain ⟨ws, hs, hl, q⟩ := g
    obtain ⟨u, hu, us, rfl, ru⟩ := s.sto.at' _ _ hs
    exact ⟨_, us, _, rfl, rfl, hu, by rw [← ru.length]; exact hl, fin hs (by exact ⟨_, rfl, ru.append (.cons r1 .nil)⟩) .non q⟩
  · cases r
    cases rx
    obtain ⟨ws, w, hs, hl, q⟩ := g
    obtain ⟨u, hu, us, rfl, ru⟩ := s.sto.at' _ _ hs
    obtain ⟨v, hv, rv⟩ := ru.get hl
    exact ⟨_, us, v, rfl, rfl, hu, by rw [← ru.length]; exact hv, fin hs (by exact ⟨_, rfl, ru.dropLast⟩) rv q⟩
  · obtain _ | ⟨r1, _ | _⟩ := r
    cases r1
    cases rx
    obtain ⟨ws, j, w, hs, h1, h2, hj, hl, q⟩ := g
    obtain ⟨u, hu, us, rfl, ru⟩ := s.sto.at' _ _ hs
    obtain ⟨v, hv, rv⟩ := ru.get hl
    exact ⟨_, us, _, j, v, rfl, rfl, hu, h1, h2, by rw [← ru.length]; exact hj, hv, fin hs (by exact ⟨_, rfl, ru.eraseIdx j⟩) rv q⟩
  · cases r
    cases rx
    obtain ⟨ws, hs, q⟩ := g
    obtain ⟨u, hu, us, rfl, ru⟩ := s.sto.at' _ _ hs
    exact ⟨_, us, rfl, rfl, hu, fin hs (by exact ⟨_, rfl, .nil⟩) .non q⟩
  · obtain _ | ⟨r1, _ | _⟩ := r
    cases rx
    obtain ⟨ws, zs, hs, hz, hl, q⟩ := g
    obtain ⟨u, hu, us, rfl, ru⟩ := s.sto.at' _ _ hs
    obtain ⟨b, ts, rfl, hb, rb⟩ := rdL_sq s.sto r1 hz
    exact ⟨_, b, us, ts, rfl, rfl, hu, hb, by rw [← ru.length, ← rb.length]; exact hl, fin hs (by exact ⟨_, rfl, ru.append rb⟩) .non q⟩
  · obtain _ | ⟨r1, _ | _⟩ := r
    cases rx
    obtain ⟨ws, ss, hw, hss, hl, q⟩ := g
    obtain ⟨b, ts, rfl, hb, rb⟩ := rdQ_sq s.sto r1 hw
    obtain rfl := strsW_v hss rb
    exact ⟨_, b, ss, rfl, rfl, hb, hl, k.give s (.str _) q⟩
  · exact g.elim
end MP

set_option Elab.async false
set_option linter.all false
set_option maxRecDepth 100000
set_option maxHeartbeats 4000000
/-! MP6: what is walked, comprehensions, loops. -/
namespace MP
open PySem PySem.Spec PyProof.Rows L2

/-- a walk of the layer that yields these items as long as src stands -/
structure ItOk (K : KH) (S0 : Sto) (H0 : Hp) (J : It) (src : Sto → Prop) (items : List W) : Prop where
  go : ∀ i S H, StoOk K S H → Same (fz S0 H0) (fz S H) → src S → i < items.length → J.go i H
  stop : ∀ i S H, StoOk K S H → Same (fz S0 H0) (fz S H) → src S → items.length ≤ i → J.stop i H
  yld : ∀ i S H x H', StoOk K S H → Same (fz S0 H0) (fz S H) → src S → i < items.length → J.yld i H x H' → ∃ w, items[i]? = some w ∧ StoOk K S H' ∧ Same (fz S H) (fz S H') ∧ Rep K (fz S H') w x
/-- .. whatever is hidden beside what stands -/
def ItA (c : Ct0) (h : Addr → Bool) (S : Sto) (H : Hp) (J : It) (src : Sto → Prop) (items : List W) : Prop :=
  ∀ h' : Addr → Bool, (∀ b o, fz S H b = some o → h' b = h b) → ItOk ⟨c.K, h'⟩ S H J src items
def tOfI (c : Ct0) (t : Env → Sto → ((Sto → Prop) → List W → Sto → Prop) → XC → Prop) : TI := fun σ H R => ∃ h ρ S Q X, Sim (c.at h).K ρ σ S H ∧ t ρ S Q X ∧
  (∀ src items S' J H', Sim (c.at h).K ρ σ S' H' → Same (fz S H) (fz S' H') → ItA c h S' H' J src items → Q src items S' → R J H') ∧ XCk (c.at h).K (c.E σ) S H X
theorem PI.imp {X : Cx} {tg e : Expr} {t t' : TI} (h : PI X tg e t) (i : ∀ σ H R, t' σ H R → t σ H R) : PI X tg e t' := ⟨fun pins s σ H R I q => h.run pins s σ H R I (i σ H R q)⟩

/-! ### lists, tuples, texts -/
def iSeq (K : PySem.W.Frag) (tl : TE) : TI := fun σ H R => tl σ H fun x H1 => (∃ a, x = .ref a ∧ (((∃ xs, SqL K H1 a xs) ∧ R (Itl K a) H1) ∨ ((∃ xs, SqT K H1 a xs) ∧ R (Itt K a) H1))) ∨ ∃ z, x = .str z ∧ R (Its z) H1
theorem pi_seq {X : Cx} {tg l : Expr} {tl : TE} (hl : PE X l tl) : PI X tg l (iSeq X.K tl) := by
  refine ⟨fun pins s σ H R I h => ?_⟩
  refine thn (hl.run pins s σ H _ I h) fun v s1 ⟨x, H1, I1, r1, q1⟩ => ?_
  rcases q1 with ⟨a, e, ⟨⟨xs, hq⟩, q⟩ | ⟨⟨xs, hq⟩, q⟩⟩ | ⟨z, e, q⟩
  · subst e
    cases r1
    obtain ⟨its, rv, p, hz⟩ := I1.list hq
    refine wpAny_pyIter_list p.isList ?_
    refine ⟨s1.heap.objs.size, [s1.heap.objs.size], _, _, H1, rfl, I1.kept (t' := s1.toks) fun b o e => Heap.get?_push_of_some _ e, turn_list a _, ⟨_, Heap.get?_push_size _ rfl, rfl, rfl⟩, fun b hb => ?_, q⟩
    have e : b = s1.heap.objs.size := by simpa using hb
    subst e
    exact I1.fpOk (Nat.le_refl _) (I1.hok.fresh (Nat.le_refl _))
  · subst e
    cases r1
    obtain ⟨its, rv, p, hz⟩ := I1.tuple hq
    refine wpAny_pyIter_tuple (show s1.heap.IsTuple a its.toArray from p) ?_
    refine ⟨s1.heap.objs.size, [s1.heap.objs.size], _, _, H1, rfl, I1.kept (t' := s1.toks) fun b o e => Heap.get?_push_of_some _ e, turn_tuple a _, ⟨_, Heap.get?_push_size _ rfl, rfl, rfl⟩, fun b hb => ?_, q⟩
    have e : b = s1.heap.objs.size := by simpa using hb
    subst e
    exact I1.fpOk (Nat.le_refl _) (I1.hok.fresh (Nat.le_refl _))
  · subst e
    obtain ⟨t, rfl⟩ := r1
    cases ha : z.cps.all (· < 128)
    · exact wpAny_pyIter_wide ha (pi_one (tk := s1.toks) I1 _ (turn_str _ z t "str_iterator" (.inr rfl)) ⟨_, Heap.get?_push_size _ rfl, rfl, rfl⟩ q)
    · exact wpAny_pyIter_ascii ha (pi_one (tk := s1.toks) I1 _ (turn_str _ z t "str_ascii_iterator" (.inl rfl)) ⟨_, Heap.get?_push_size _ rfl, rfl, rfl⟩ q)
section
variable {K : KH} {S0 : Sto} {H0 : Hp}
theorem itok_list {w : W} {a : Addr} {ws : List W} (r : Rep K (fz S0 H0) w (.ref a)) (e : rdL S0 w = some ws) : ItOk K S0 H0 (Itl K.K a) (fun S => rdL S w = some ws) ws := by
  have at' : ∀ S H, StoOk K S H → Same (fz S0 H0) (fz S H) → rdL S w = some ws → ∃ vs, SqL K.K H a vs ∧ RepL K (fz S H) ws vs := fun S H k m h => by
    obtain ⟨a', vs, e, h1, h2⟩ := rdL_sq k (r.mono m) h
    cases e
    exact ⟨vs, h1.sq, h2⟩
  refine ⟨fun i S H k m h hi => ?_, fun i S H k m h hi => ?_, fun i S H x H' k m h hi hy => ?_⟩
  · obtain ⟨vs, h1, h2⟩ := at' S H k m h
    obtain ⟨v, hv, _⟩ := h2.get (List.getElem?_eq_getElem hi)
    exact ⟨vs, v, h1, hv⟩
  · obtain ⟨vs, h1, h2⟩ := at' S H k m h
    exact ⟨vs, h1, by rw [← h2.length]; exact hi⟩
  · obtain ⟨vs, h1, h2⟩ := at' S H k m h
    obtain ⟨rfl, f⟩ := hy
    obtain ⟨u, hu, ru⟩ := h2.get' (f vs h1)
    exact ⟨u, hu, k, Same.refl _, ru⟩
theorem itok_tup {a : Addr} {ws : List W} {P : Sto → Prop} (r : Rep K (fz S0 H0) (.tup ws) (.ref a)) : ItOk K S0 H0 (Itt K.K a) P ws := by
  have at' : ∀ S H, StoOk K S H → Same (fz S0 H0) (fz S H) → ∃ vs, SqT K.K H a vs ∧ RepL K (fz S H) ws vs := fun S H k m => by
    obtain ⟨a', vs, e, h1, h2⟩ := tup_sq (r.mono m)
    cases e
    exact ⟨vs, .of h1, h2⟩
  refine ⟨fun i S H k m h hi => ?_, fun i S H k m h hi => ?_, fun i S H x H' k m h hi hy => ?_⟩
  · obtain ⟨vs, h1, h2⟩ := at' S H k m
    obtain ⟨v, hv, _⟩ := h2.get (List.getElem?_eq_getElem hi)
    exact ⟨vs, v, h1, hv⟩
  · obtain ⟨vs, h1, h2⟩ := at' S H k m
    exact ⟨vs, h1, by rw [← h2.length]; exact hi⟩
  · obtain ⟨vs, h1, h2⟩ := at' S H k m
    obtain ⟨rfl, f⟩ := hy
    obtain ⟨u, hu, ru⟩ := h2.get' (f vs h1)
    exact ⟨u, hu, k, Same.refl _, ru⟩
theorem itok_str {z : Str} {P : Sto → Prop} : ItOk K S0 H0 (Its z) P (sgnW z) := by
  have hl : (sgnW z).length = z.cps.size := by unfold sgnW; rw [List.length_map, Array.length_toList]
  refine ⟨fun i S H k m h hi => ?_, fun i S H k m h hi => ?_, fun i S H x H' k m h hi hy => ?_⟩
  · rw [hl] at hi; exact hi
  · rw [hl] at hi; exact hi
  · obtain ⟨rfl, c, hc, rfl⟩ := hy
    refine ⟨.str ⟨#[c]⟩, ?_, k, Same.refl _, .str _⟩
    unfold sgnW
    rw [List.getElem?_map, Array.getElem?_toList, hc]
    rfl
theorem itok_range {lo : Int} {n : Nat} {P : Sto → Prop} : ItOk K S0 H0 (Itr lo n) P (rngW lo n) := by
  have hl : (rngW lo n).length = n := by unfold rngW; rw [List.length_map, List.length_range]
  refine ⟨fun i S H k m h hi => ?_, fun i S H k m h hi => ?_, fun i S H x H' k m h hi hy => ?_⟩
  · rw [hl] at hi; exact hi
  · rw [hl] at hi; exact hi
  · obtain ⟨rfl, rfl⟩ := hy
    rw [hl] at hi
    refine ⟨.int (lo + i), ?_, k, Same.refl _, .int _⟩
    unfold rngW
    rw [List.getElem?_map, List.getElem?_range hi]
    rfl
theorem itok_rangeC {lo c : Int} {n : Nat} {P : Sto → Prop} : ItOk K S0 H0 (Itc lo c n) P ((List.range n).map fun (k : Nat) => W.int (lo + k * c)) := by
  have hl : ((List.range n).map fun (k : Nat) => W.int (lo + k * c)).length = n := by rw [List.length_map, List.length_range]
  refine ⟨fun i S H k m h hi => ?_, fun i S H k m h hi => ?_, fun i S H x H' k m h hi hy => ?_⟩
  · rw [hl] at hi; exact hi
  · rw [hl] at hi; exact hi
  · obtain ⟨rfl, rfl⟩ := hy
    rw [hl] at hi
    exact ⟨.int (lo + i * c), by rw [List.getElem?_map, List.getElem?_range hi]; rfl, k, Same.refl _, .int _⟩
theorem enmW_get : ∀ (ws : List W) (n i : Nat) (w : W), ws[i]? = some w → (enmW n ws)[i]? = some (.tup [.int ((n + i : Nat) : Int), w])
  | [], _, _, _, h => by simp at h
  | x :: ws, n, 0, w, h => by
    have : x = w := by simpa using h
    subst this
    rfl
  | x :: ws, n, i + 1, w, h => by
    have e := enmW_get ws (n + 1) i w (by simpa using h)
    have : n + 1 + i = n + (i + 1) := by omega
    rw [this] at e
    exact e
theorem enmW_len : ∀ (ws : List W) (n : Nat), (enmW n ws).length = ws.length
  | [], _ => rfl
  | _ :: ws, n => by show (enmW (n + 1) ws).length + 1 = _; rw [enmW_len ws]; rfl
theorem zipW_len : ∀ (xs ys : List W), (zipW xs ys).length = min xs.length ys.length
  | [], ys => by cases ys <;> simp [zipW]
  | x :: xs, [] => by simp [zipW]
  | x :: xs, y :: ys => by
    show (zipW xs ys).length + 1 = min (xs.length + 1) (ys.length + 1)
    rw [zipW_len xs ys]
    omega
theorem zipW_get : ∀ (xs ys : List W) (i : Nat) (x y : W), xs[i]? = some x → ys[i]? = some y → (zipW xs ys)[i]? = some (.tup [x, y])
  | [], _, _, _, _, h, _ => by simp at h
  | _ :: _, [], _, _, _, _, h => by simp at h
  | x :: xs, y :: ys, 0, a, b, h1, h2 => by
    have e1 : x = a := by simpa using h1
    have e2 : y = b := by simpa using h2
    subst e1; subst e2
    rfl
  | x :: xs, y :: ys, i + 1, a, b, h1, h2 => zipW_get xs ys i a b (by simpa using h1) (by simpa using h2)
theorem itok_enum {w : W} {a : Addr} {ws : List W} (r : Rep K (fz S0 H0) w (.ref a)) (e : rdL S0 w = some ws) : ItOk K S0 H0 (Ite K.K a) (fun S => rdL S w = some ws) (enmW 0 ws) := by
  have at' : ∀ S H, StoOk K S H → Same (fz S0 H0) (fz S H) → rdL S w = some ws → ∃ vs, SqL K.K H a vs ∧ RepL K (fz S H) ws vs := fun S H k m h => by
    obtain ⟨a', vs, e, h1, h2⟩ := rdL_sq k (r.mono m) h
    cases e
    exact ⟨vs, h1.sq, h2⟩
  have hl := enmW_len ws 0
  refine ⟨fun i S H k m h hi => ?_, fun i S H k m h hi => ?_, fun i S H x H' k m h hi hy => ?_⟩
  · rw [hl] at hi
    obtain ⟨vs, h1, h2⟩ := at' S H k m h
    obtain ⟨v, hv, _⟩ := h2.get (List.getElem?_eq_getElem hi)
    exact ⟨vs, v, h1, hv⟩
  · rw [hl] at hi
    obtain ⟨vs, h1, h2⟩ := at' S H k m h
    exact ⟨vs, h1, by rw [← h2.length]; exact hi⟩
  · obtain ⟨vs, h1, h2⟩ := at' S H k m h
    obtain ⟨T, y, rfl, nT, rfl, f⟩ := hy
    obtain ⟨u, hu, ru⟩ := h2.get' (f vs h1)
    have sm := same_new (o := .tup [.int (i : Nat), y]) k nT
    refine ⟨_, enmW_get ws 0 i u hu, k.new nT, sm, .tup (k.nohid nT) (fz_new k nT) (.cons ?_ (.cons (ru.mono sm) .nil))⟩
    rw [Nat.zero_add]
    exact .int _
theorem itok_zip {w w' : W} {a b : Addr} {xs ys : List W} (r : Rep K (fz S0 H0) w (.ref a)) (r' : Rep K (fz S0 H0) w' (.ref b)) :
    ItOk K S0 H0 (Itz K.K a b) (fun S => rdL S w = some xs ∧ rdL S w' = some ys) (zipW xs ys) := by
  have at' : ∀ {w : W} {a : Addr} {xs : List W}, Rep K (fz S0 H0) w (.ref a) → ∀ S H, StoOk K S H → Same (fz S0 H0) (fz S H) → rdL S w = some xs → ∃ vs, SqL K.K H a vs ∧ RepL K (fz S H) xs vs := fun r S H k m h => by
    obtain ⟨a', vs, e, h1, h2⟩ := rdL_sq k (r.mono m) h
    cases e
    exact ⟨vs, h1.sq, h2⟩
  have hl := zipW_len xs ys
  refine ⟨fun i S H k m h hi => ?_, fun i S H k m h hi => ?_, fun i S H x H' k m h hi hy => ?_⟩
  · rw [hl] at hi
    obtain ⟨us, p1, p2⟩ := at' r S H k m h.1
    obtain ⟨vs, q1, q2⟩ := at' r' S H k m h.2
    obtain ⟨u, hu, _⟩ := p2.get (List.getElem?_eq_getElem (show i < xs.length by omega))
    obtain ⟨v, hv, _⟩ := q2.get (List.getElem?_eq_getElem (show i < ys.length by omega))
    exact ⟨us, vs, u, v, p1, q1, hu, hv⟩
  · rw [hl] at hi
    obtain ⟨us, p1, p2⟩ := at' r S H k m h.1
    obtain ⟨vs, q1, q2⟩ := at' r' S H k m h.2
    have e1 := p2.length
    have e2 := q2.length
    exact ⟨us, vs, p1, q1, by omega⟩
  · obtain ⟨us, p1, p2⟩ := at' r S H k m h.1
    obtain ⟨vs, q1, q2⟩ := at' r' S H k m h.2
    obtain ⟨T, y, z, rfl, nT, rfl, f, g⟩ := hy
    obtain ⟨u, hu, ru⟩ := p2.get' (f us p1)
    obtain ⟨v, hv, rv⟩ := q2.get' (g vs q1)
    have sm := same_new (o := .tup [y, z]) k nT
    exact ⟨_, zipW_get xs ys i u v hu hv, k.new nT, sm, .tup (k.nohid nT) (fz_new k nT) (.cons (ru.mono sm) (.cons (rv.mono sm) .nil))⟩
end
theorem imp_seq {c : Ct0} {e : WE} {σ : L2.St} {H : Hp} {R : It → Hp → Prop} (h : tOfI c (fun ρ S Q X => e ρ S (fun x S1 => ∃ ws, rdI S1 x = some ws ∧ Q (srcW x ws) ws S1) X) σ H R) : iSeq c.K (tOf c e) σ H R := by
  obtain ⟨hh, ρ, S, Q, X, s, q, k, kx⟩ := h
  refine ⟨hh, ρ, S, _, X, s, q, fun w S1 v H1 s1 e1 r1 q1 => ?_, kx⟩
  obtain ⟨ws, hw, q1⟩ := q1
  cases w with
  | str z =>
    cases hw
    cases r1
    exact .inr ⟨z, rfl, k _ _ _ _ _ s1 e1 (fun _ _ => itok_str) q1⟩
  | tup us =>
    cases hw
    obtain ⟨a, vs, rfl, ha, ra⟩ := tup_sq r1
    exact .inl ⟨a, rfl, .inr ⟨⟨vs, .of ha⟩, k _ _ _ _ _ s1 e1 (fun h' hh' => itok_tup (r1.agree hh')) q1⟩⟩
  | lst us =>
    have hl : rdL S1 (.lst us) = some ws := hw
    obtain ⟨a, vs, rfl, ha, ra⟩ := rdL_sq s1.sto r1 hl
    exact .inl ⟨a, rfl, .inl ⟨⟨vs, ha.sq⟩, k _ _ _ _ _ s1 e1 (fun h' hh' => itok_list (r1.agree hh') hl) q1⟩⟩
  | ref b =>
    have hl : rdL S1 (.ref b) = some ws := hw
    obtain ⟨a, vs, rfl, ha, ra⟩ := rdL_sq s1.sto r1 hl
    exact .inl ⟨a, rfl, .inl ⟨⟨vs, ha.sq⟩, k _ _ _ _ _ s1 e1 (fun h' hh' => itok_list (r1.agree hh') hl) q1⟩⟩
  | _ => cases hw

/-! ### loops -/
/-- what is wanted behind a statement -/
structure EndsOk (C : Ctx) (ρ : Env) (σ : L2.St) (S : Sto) (H : Hp) (D' : WEnds) (D : Ends) : Prop where
  nx : ∀ ρ' S' σ' H', Sim C.K ρ' σ' S' H' → Same (fz S H) (fz S' H') → D'.nx ρ' S' → D.nx σ' H'
  rt : ∀ w S' v H', StoOk C.K S' H' → Same (fz S H) (fz S' H') → Rep C.K (fz S' H') w v → D'.rt w S' → D.rt v H'
  bk : ∀ ρ' S' σ' H', Sim C.K ρ' σ' S' H' → Same (fz S H) (fz S' H') → D'.bk ρ' S' → D.bk σ' H'
  ct : ∀ ρ' S' σ' H', Sim C.K ρ' σ' S' H' → Same (fz S H) (fz S' H') → D'.ct ρ' S' → D.ct σ' H'
  xc : ∀ σ', XCk C.K (C.E σ') S H D'.xc
def tOfS (c : Ct0) (w : WS) : TS := fun D σ H => ∃ h ρ S D', Sim (c.at h).K ρ σ S H ∧ w ρ S D' ∧ EndsOk (c.at h) ρ σ S H D' D
theorem EndsOk.to {C : Ctx} {ρ ρ1 : Env} {σ σ1 : L2.St} {S S1 : Sto} {H H1 : Hp} {D' : WEnds} {D : Ends} (h : EndsOk C ρ σ S H D' D) (e : Same (fz S H) (fz S1 H1)) : EndsOk C ρ1 σ1 S1 H1 D' D :=
  ⟨fun a b c d s q => h.nx a b c d s (e.trans q), fun a b c d s q => h.rt a b c d s (e.trans q), fun a b c d s q => h.bk a b c d s (e.trans q), fun a b c d s q => h.ct a b c d s (e.trans q), fun σ' => (h.xc σ').to e⟩
theorem imp_for {c : Ct0} {i : Env → Sto → ((Sto → Prop) → List W → Sto → Prop) → XC → Prop} {g : W → Env → Sto → (Env → Sto → Prop) → Prop} {b : WS} {al : List Nat} {D : Ends} {σ : L2.St} {H : Hp}
    (h : tOfS c (fun ρ S D => i ρ S (fun src items S1 => wpFor src g b items ρ S1 D) D.xc) D σ H) : tFor (tOfI c i) (tOfG c al g) (tOfS c b) D σ H := by
  obtain ⟨hh, ρ, S, D', s, q, k⟩ := h
  refine ⟨hh, ρ, S, _, D'.xc, s, q, fun src items S1 J H1 s1 e1 ita q1 => ?_, k.xc σ⟩
  have it := ita hh fun _ _ _ => rfl
  refine ⟨fun n m σ2 H2 => ∃ ρ2 S2, Sim (c.at hh).K ρ2 σ2 S2 H2 ∧ Same (fz S1 H1) (fz S2 H2) ∧ wpFor src g b (items.drop n) ρ2 S2 D' ∧ m + n = items.length,
    ⟨items.length, ρ, S1, s1, Same.refl _, by rw [List.drop_zero]; exact q1, rfl⟩, fun n m σ2 H2 hW => ?_⟩
  obtain ⟨ρ2, S2, s2, e2, q2, em⟩ := hW
  by_cases hn : n < items.length
  · rw [List.drop_eq_getElem_cons hn] at q2
    obtain ⟨hs, q2⟩ := q2
    refine .inr ⟨it.go n S2 H2 s2.sto e2 hs hn, fun σ3 H3 => ∃ ρ3 S3, Sim (c.at hh).K ρ3 σ3 S3 H3 ∧ Same (fz S1 H1) (fz S3 H3) ∧ wpFor src g b (items.drop (n + 1)) ρ3 S3 D', fun σ3 H3 hN => ?_, fun x H3 hy => ?_⟩
    · obtain ⟨ρ3, S3, s3, e3, q3⟩ := hN
      exact ⟨m - 1, by omega, ρ3, S3, s3, e3, q3, by omega⟩
    · obtain ⟨w, hw, k3, e3, rw'⟩ := it.yld n S2 H2 x H3 s2.sto e2 hs hn hy
      rw [List.getElem?_eq_getElem hn] at hw
      cases hw
      refine ⟨hh, _, ρ2, S2, _, s2.to e3 k3, rw', q2, fun ρ4 S4 σ4 H4 s4 e4 _ q4 => ?_⟩
      refine ⟨hh, ρ4, S4, _, s4, q4, ?_⟩
      have e14 := (e2.trans e3).trans e4
      exact ⟨fun ρ5 S5 σ5 H5 s5 e5 q5 => ⟨ρ5, S5, s5, e14.trans e5, q5⟩, fun w' S5 v5 H5 s5 e5 => k.rt w' S5 v5 H5 s5 ((e1.trans e14).trans e5),
        fun ρ5 S5 σ5 H5 s5 e5 => k.nx ρ5 S5 σ5 H5 s5 ((e1.trans e14).trans e5), fun ρ5 S5 σ5 H5 s5 e5 q5 => ⟨ρ5, S5, s5, e14.trans e5, q5⟩, fun σ' => (k.xc σ').to (e1.trans e14)⟩
  · rw [List.drop_eq_nil_of_le (by omega)] at q2
    exact .inl ⟨it.stop n S2 H2 s2.sto e2 q2.1 (by omega), k.nx _ _ _ _ s2 (e1.trans e2) q2.2⟩
theorem imp_while {c : Ct0} {t : Env → Sto → (Bool → Sto → Prop) → XC → Prop} {b : WS} {D : Ends} {σ : L2.St} {H : Hp}
    (h : tOfS c (fun ρ S D => ∃ I : Nat → Env → Sto → Prop, (∃ m, I m ρ S) ∧ ∀ m ρ S, I m ρ S → t ρ S (fun r S1 =>
      if r = true then b ρ S1 { D with nx := fun ρ2 S2 => ∃ m', m' < m ∧ I m' ρ2 S2, ct := fun ρ2 S2 => ∃ m', m' < m ∧ I m' ρ2 S2, bk := D.nx } else D.nx ρ S1) D.xc) D σ H) : tWhile (tOfT c t) (tOfS c b) D σ H := by
  obtain ⟨hh, ρ, S, D', s, ⟨I, ⟨m0, i0⟩, turn⟩, k⟩ := h
  refine ⟨fun m σ2 H2 => ∃ ρ2 S2, Sim (c.at hh).K ρ2 σ2 S2 H2 ∧ Same (fz S H) (fz S2 H2) ∧ I m ρ2 S2, ⟨m0, ρ, S, s, Same.refl _, i0⟩, fun m σ2 H2 hW => ?_⟩
  obtain ⟨ρ2, S2, s2, e2, i2⟩ := hW
  refine ⟨hh, ρ2, S2, _, D'.xc, s2, turn m ρ2 S2 i2, fun r S3 H3 s3 e3 q3 => ?_, (k.xc σ2).to e2⟩
  have e23 := e2.trans e3
  cases r with
  | true =>
    rw [if_pos rfl] at q3
    refine iteT ⟨fun σ4 H4 => ∃ ρ4 S4 m', m' < m ∧ Sim (c.at hh).K ρ4 σ4 S4 H4 ∧ Same (fz S H) (fz S4 H4) ∧ I m' ρ4 S4, fun σ4 H4 hN => ?_, hh, ρ2, S3, _, s3, q3, ?_⟩
    · obtain ⟨ρ4, S4, m', hm, s4, e4, i4⟩ := hN
      exact ⟨m', hm, ρ4, S4, s4, e4, i4⟩
    · exact ⟨fun ρ5 S5 σ5 H5 s5 e5 ⟨m', hm, i5⟩ => ⟨ρ5, S5, m', hm, s5, e23.trans e5, i5⟩, fun w' S5 v5 H5 s5 e5 => k.rt w' S5 v5 H5 s5 (e23.trans e5),
        fun ρ5 S5 σ5 H5 s5 e5 => k.nx ρ5 S5 σ5 H5 s5 (e23.trans e5), fun ρ5 S5 σ5 H5 s5 e5 ⟨m', hm, i5⟩ => ⟨ρ5, S5, m', hm, s5, e23.trans e5, i5⟩, fun σ' => (k.xc σ').to e23⟩
  | false =>
    rw [if_neg Bool.false_ne_true] at q3
    exact iteF (k.nx _ _ _ _ s3 e23 q3)

/-! ### comprehensions -/
theorem wipe_len (ρ : Env) : ∀ vs : List Nat, (wipeW ρ vs).length = ρ.length
  | [] => rfl
  | v :: vs => by show ((wipeW ρ vs).set v none).length = _; rw [List.length_set, wipe_len ρ vs]
theorem wipe_get {ρ : Env} {i : Nat} {w : W} : ∀ {vs : List Nat}, (wipeW ρ vs)[i]? = some (some w) → ρ[i]? = some (some w) ∧ i ∉ vs
  | [], h => ⟨h, by simp⟩
  | v :: vs, h => by
    have h' : ((wipeW ρ vs).set v none)[i]? = some (some w) := h
    by_cases e : v = i
    · subst e
      by_cases hl : v < (wipeW ρ vs).length
      · rw [List.getElem?_set_self hl] at h'; cases h'
      · rw [List.getElem?_eq_none (by rw [List.length_set]; omega)] at h'; cases h'
    · rw [List.getElem?_set_ne e] at h'
      obtain ⟨h1, h2⟩ := wipe_get h'
      exact ⟨h1, by simp [h2]; exact fun z => e z.symm⟩
theorem wipe_v {σ : L2.St} {i : Nat} : ∀ {vs : List Nat}, i ∉ vs → (wipe σ vs)[i]? = σ[i]?
  | [], _ => rfl
  | v :: vs, h => by
    have h1 : v ≠ i := fun e => h (by simp [e])
    have h2 : i ∉ vs := fun e => h (by simp [e])
    show ((wipe σ vs).set v none)[i]? = σ[i]?
    rw [List.getElem?_set_ne h1, wipe_v h2]
theorem Sim.wipe {K : KH} {ρ : Env} {σ : L2.St} {S : Sto} {H : Hp} (s : Sim K ρ σ S H) (vs : List Nat) : Sim K (wipeW ρ vs) (L2.wipe σ vs) S H := by
  refine ⟨fun i w h => ?_, by rw [wipe_len, wipe_length]; exact s.len, s.sto⟩
  obtain ⟨h1, h2⟩ := wipe_get h
  obtain ⟨v, hv, r⟩ := s.var i w h1
  exact ⟨v, by rw [wipe_v h2]; exact hv, r⟩
/-- a slot that is wiped -/
theorem wipe_at {σ : L2.St} {i : Nat} : ∀ {vs : List Nat}, i ∈ vs → (wipe σ vs)[i]? = if i < σ.length then some none else none
  | v :: vs, h => by
    show ((wipe σ vs).set v none)[i]? = _
    by_cases e : v = i
    · subst e
      by_cases hl : v < σ.length
      · rw [List.getElem?_set_self (by rw [wipe_length]; exact hl), if_pos hl]
      · rw [List.getElem?_eq_none (by rw [List.length_set, wipe_length]; omega), if_neg hl]
    · rw [List.getElem?_set_ne e]
      rcases List.mem_cons.mp h with h | h
      · exact absurd h.symm e
      · exact wipe_at h
theorem wipe_al {σ σ' : L2.St} {vs : List Nat} (h : Al vs (wipe σ vs) σ') : wipe σ' vs = wipe σ vs := by
  apply List.ext_getElem?
  intro i
  by_cases hi : i ∈ vs
  · rw [wipe_at hi, wipe_at hi, h.1, wipe_length]
  · rw [wipe_v hi, h.2 i hi]
theorem imp_lc {c c' : Ct0} {i : Env → Sto → ((Sto → Prop) → List W → Sto → Prop) → XC → Prop} {g : W → Env → Sto → (Env → Sto → Prop) → Prop} {t : Env → Sto → (Bool → Sto → Prop) → Prop} {e : WE} {vs al : List Nat} {live : Bool}
    {σ : L2.St} {H : Hp} {Q' : VK} (hC : c'.K = c.K) (hal : ∀ j ∈ al, j ∈ vs)
    (h : tOf c (fun ρ S Q X => i ρ S (fun src items S1 => wpLc src g t (fun ρ1 S2 Q1 => e ρ1 S2 Q1 XN) (wipeW ρ vs) items [] S1 fun ws S2 => mkL live ws S2 Q) X) σ H Q') :
    tLc (tOfI c i) (tOfG c' al g) (tOfT c' fun ρ S Q _ => t ρ S Q) (tOf c' e) vs σ H Q' := by
  obtain ⟨hh, ρ, S, Q, X, s, q, k, kx⟩ := h
  refine ⟨hh, ρ, S, _, X, s, q, fun src items S1 J H1 s1 e1 ita q1 => ?_, kx⟩
  intro D hD
  obtain ⟨K', E'⟩ := c'
  obtain rfl : K' = c.K := hC
  have s1' := (s1.hide (o := .lst []) hD).wipe vs
  have e1' := same_new (o := .lst []) s1.sto hD
  have hD1 : fz S1 H1 D = none := by
    unfold fz
    split <;> first | rfl | exact hD
  have it := ita ((c.at hh).K.more D).h fun b o e => by
    have hb := ne_of_none e hD1
    unfold KH.more
    simp [hb]
  have nD := s1.sto.nohid hD
  have offD : ∀ {S2 : Sto} {H2 H3 : Hp}, Same (fz S1 H1) (fz S2 H2) → (∀ b, b ≠ D → fz S2 H3 b = fz S2 H2 b) → Same (fz S1 H1) (fz S2 H3) := fun e z b u q => by
    rw [z b (ne_of_none q hD1)]
    exact e b u q
  refine ⟨fun n m H2 => ∃ S2 acc vacc, Sim ((c.at hh).K.more D) (wipeW ρ vs) (wipe σ vs) S2 H2 ∧ Sim ((c.at hh).K.more D) ρ σ S2 H2 ∧ Same (fz S1 H1) (fz S2 H2) ∧ H2 D = some (.lst vacc) ∧ RepL ((c.at hh).K.more D) (fz S2 H2) acc vacc ∧
      wpLc src g t (fun ρ1 S2 Q1 => e ρ1 S2 Q1 XN) (wipeW ρ vs) (items.drop n) acc S2 (fun ws S2 => mkL live ws S2 Q) ∧ m + n = items.length,
    ⟨items.length, S1, [], [], s1', s1.hide hD, e1', upd_same, .nil, by rw [List.drop_zero]; exact q1, rfl⟩, fun n m H2 hW => ?_⟩
  obtain ⟨S2, acc, vacc, s2, s2r, e2, d2, ra, q2, em⟩ := hW
  have k2 : StoOk (c.at hh).K S2 H2 := s2.sto.unhide
  by_cases hn : n < items.length
  · rw [List.drop_eq_getElem_cons hn] at q2
    obtain ⟨hs, q2⟩ := q2
    refine .inr ⟨it.go n S2 H2 s2.sto e2 hs hn, fun H3 => ∃ S3 acc vacc, Sim ((c.at hh).K.more D) (wipeW ρ vs) (wipe σ vs) S3 H3 ∧ Sim ((c.at hh).K.more D) ρ σ S3 H3 ∧ Same (fz S1 H1) (fz S3 H3) ∧ H3 D = some (.lst vacc) ∧
        RepL ((c.at hh).K.more D) (fz S3 H3) acc vacc ∧ wpLc src g t (fun ρ1 S2 Q1 => e ρ1 S2 Q1 XN) (wipeW ρ vs) (items.drop (n + 1)) acc S3 (fun ws S2 => mkL live ws S2 Q), fun H3 hN => ?_, fun x H3 hy => ?_⟩
    · obtain ⟨S3, acc3, vacc3, a1, a2, a3, a4, a5, a6⟩ := hN
      exact ⟨m - 1, by omega, S3, acc3, vacc3, a1, a2, a3, a4, a5, a6, by omega⟩
    · obtain ⟨w, hw, k3, e3, rw'⟩ := it.yld n S2 H2 x H3 s2.sto e2 hs hn hy
      rw [List.getElem?_eq_getElem hn] at hw
      cases hw
      have hS2D : S2 D = none := (s2.sto.hid D KH.more_at).1
      have dTo : ∀ {S5 : Sto} {H5 : Hp}, Same (fz S2 H2) (fz S5 H5) → H5 D = some (.lst vacc) := fun e =>
        (fz_some (e D _ (by rw [fz_none hS2D]; exact d2))).2
      refine ⟨((c.at hh).K.more D).h, _, wipeW ρ vs, S2, _, s2.to e3 k3, rw', q2, fun ρ3 S3 σ3 H4 s3 e4 al3 q3 => ⟨wipe_al (al3.mono hal), ((c.at hh).K.more D).h, ρ3, S3, _, XN, s3, q3, fun r S4 H5 s4 e5 q4 => ?_, XCk.no⟩⟩
      · cases r with
        | true =>
          rw [if_pos rfl] at q4
          refine iteT ⟨((c.at hh).K.more D).h, ρ3, S4, _, XN, s4, q4, fun y S5 vy H6 s5 e6 r5 q5 => ?_, XCk.no⟩
          have e26 := ((e3.trans e4).trans e5).trans e6
          have hS5D : S5 D = none := (s5.sto.hid D KH.more_at).1
          refine ⟨vacc, dTo e26, by rw [← ra.length]; exact q5.1, S5, acc ++ [y], vacc ++ [vy], (s2.to e26 s5.sto).hidden KH.more_at, (s2r.to e26 s5.sto).hidden KH.more_at, offD (e2.trans e26) fz_hid, upd_same, ?_, q5.2⟩
          exact ((ra.mono e26).append (.cons r5 .nil)).hidden KH.more_at fz_hid
        | false =>
          rw [if_neg Bool.false_ne_true] at q4
          have e25 := (e3.trans e4).trans e5
          exact iteF ⟨S4, acc, vacc, s2.to e25 s4.sto, s2r.to e25 s4.sto, e2.trans e25, dTo e25, ra.mono e25, q4⟩
  · rw [List.drop_eq_nil_of_le (by omega)] at q2
    refine .inl ⟨it.stop n S2 H2 s2.sto e2 q2.1 (by omega), ?_⟩
    have hS2D : S2 D = none := (s2.sto.hid D KH.more_at).1
    have q3 := q2.2
    cases live with
    | true =>
      refine k _ _ _ _ (s2r.cell nD d2 ra) (e1.trans fun b u q => ?_) (.ref D) (q3 D hS2D)
      have hb := ne_of_none q hD1
      have := e2 b u q
      unfold fz at this ⊢
      rw [sup_ne hb]
      exact this
    | false => exact k _ _ _ _ s2r.unhide (e1.trans e2) (.lst nD (.inl (by rw [fz_none hS2D]; exact d2)) ra.unhide) q3
end MP

set_option Elab.async false
set_option linter.all false
set_option maxRecDepth 100000
set_option maxHeartbeats 4000000
/-! MP7: the check of an expression's text against its core, and what it is worth. -/
namespace MP
open PySem PySem.Spec PyProof.Rows L2

structure Gv where
  fns : List (Str × Nat)
  glb : List (Str × Const)
/-- where a piece of text stands: its scope, and (in a comprehension's block) the scope as written -/
structure Sk where
  sc : Scope
  raw : Option Scope
structure CK where
  e : Sk → Expr → Bool
  es : Sk → List Expr → Bool := fun _ _ => false
  o : Sk → Option Expr → Bool := fun _ _ => false
  c : Sk → List Expr → Bool := fun _ _ => false
  g : Sk → Expr → Bool := fun _ _ => false
  gs : Sk → List Expr → Bool := fun _ _ => false
  i : Sk → Expr → Expr → Bool := fun _ _ _ => false
def noX : Sk → Expr → Bool := fun _ _ => false
def ckE (e : Sk → Expr → Bool) : CK := { e := e, o := fun k oe => match oe with | some x => e k x | none => false }
def ckT (e : Sk → Expr → Bool) : CK := { e := e }
def notStar : Expr → Bool | .Starred .. => false | _ => true
def notCall0 : Expr → Bool | .Call (.Name _ _) [] [] _ => false | _ => true
def notSlice : Expr → Bool | .Slice .. => false | _ => true
def notSet : Expr → Bool | .Set .. => false | _ => true
/-- truth is asked plainly -/
def dfltT : Expr → Bool | .UnaryOp .Not _ _ => false | .BoolOp .. => false | .IfExp .. => false | .Compare .. => false | _ => true
def visC (sc : Scope) (x : Str) : Bool := match sc.names.lookup x with | some .local => true | some .cell => true | some .free => true | _ => false
def glC (sc : Scope) (x : Str) : Bool := match sc.names.lookup x with | some .globalImplicit => true | _ => false
/-- a name that may be stored -/
def stoC (k : Sk) (x : Str) : Bool := match k.sc.names.lookup x with
  | some .local => true
  | some .cell => (match k.raw with | none => true | some r => (match r.names.lookup x with | some .cell => true | _ => false))
  | _ => false
def okN (x : Str) : Bool := !(x == ("__debug__" : Str)) && !(x == ("__classdict__" : Str)) && !(x == ("__name__" : Str))
/-- keys and values of a display by turns -/
def altE : List (Option Expr) → List Expr → Option (List Expr)
  | [], [] => some []
  | some k :: ks, v :: vs => (altE ks vs).map fun r => k :: v :: r
  | _, _ => none
def als : CE → List Nat
  | .tnm i => [i]
  | .ttup ts => als ts
  | .cons a as => als a ++ als as
  | _ => []
def ck (G : Gv) (N : List Str) (n : Nat) : CE → CK
  | .nil => { e := noX, es := fun _ es => es.isEmpty, o := fun _ oe => oe.isNone, c := fun _ cs => cs.isEmpty, gs := fun _ ts => ts.isEmpty }
  | .cons a as => {
      e := noX
      es := fun k es => match es with | x :: r => notStar x && (ck G N n a).e k x && (ck G N n as).es k r | [] => false
      c := fun k cs => match cs with | [x] => (ck G N n a).e k x | _ => false
      gs := fun k ts => match ts with | x :: r => notStar x && (ck G N n a).g k x && (ck G N n as).gs k r | [] => false }
  | .var i => ckE fun k e => match e with | .Name x _ => decide (N[i]? = some x) && visC k.sc x && okN x | _ => false
  | .cst c => ckE fun _ e => match e with | .Constant c' _ _ => decide (c' = c) && (cstW c).isSome | _ => false
  | .glb x c => ckE fun k e => match e with | .Name y _ => decide (y = x) && glC k.sc x && okN x && decide ((x, c) ∈ G.glb) | _ => false
  | .bin _ op a b => ckE fun k e => match e with | .BinOp l o r _ => decide (o = op.op) && (ck G N n a).e k l && (ck G N n b).e k r | _ => false
  | .neg a => ckE fun k e => match e with | .UnaryOp .USub l _ => (ck G N n a).e k l | _ => false
  | .nt a => ckT fun k e => match e with | .UnaryOp .Not l _ => (ck G N n a).e k l | _ => false
  | .cmp op a b => ckT fun k e => match e with | .Compare l [o] [r] _ => decide (o = op) && notSet r && (ck G N n a).e k l && (ck G N n b).e k r | _ => false
  | .chain o1 o2 a b c => ckT fun k e => match e with | .Compare l [p, q] [m, r] _ => decide (p = o1) && decide (q = o2) && notSet r && notSet m && (ck G N n a).e k l && (ck G N n b).e k m && (ck G N n c).e k r | _ => false
  | .an as => ckT fun k e => match e with | .BoolOp .And es _ => !es.isEmpty && (ck G N n as).es k es | _ => false
  | .or as => ckT fun k e => match e with | .BoolOp .Or es _ => !es.isEmpty && (ck G N n as).es k es | _ => false
  | .ife t a b => ckT fun k e => match e with | .IfExp c x y _ => (ck G N n t).e k c && (ck G N n a).e k x && (ck G N n b).e k y | _ => false
  | .call f as => ckE fun k e => match e with
    | .Call (.Name x _) es [] _ => decide (G.fns[f]? = some (x, es.length)) && decide (f < n) && glC k.sc x && okN x && (ck G N n as).es k es
    | _ => false
  | .blt b _ as => ckE fun k e => match e with
    | .Call (.Name x _) es [] _ => decide (x = b.nm) && !es.isEmpty && glC k.sc x && (ck G N n as).es k es
    | _ => false
  | .mth m o as => ckE fun k e => match e with
    | .Call (.Attribute x a apos) es [] cpos => decide (a = m.nm) && (apos.endLine == cpos.line) && decide (es.length < 30) && notCall0 x && (ck G N n o).e k x && (ck G N n as).es k es
    | _ => false
  | .idx a b => ckE fun k e => match e with | .Subscript v s _ => notSlice s && (ck G N n a).e k v && (ck G N n b).e k s | _ => false
  | .slc _ a lo hi => ckE fun k e => match e with | .Subscript v (.Slice l u none _) _ => (ck G N n a).e k v && (ck G N n lo).o k l && (ck G N n hi).o k u | _ => false
  | .rev _ a => ckE fun k e => match e with | .Subscript v (.Slice none none (some (.UnaryOp .USub (.Constant (.int 1) _ _) _)) _) _ => (ck G N n a).e k v | _ => false
  | .tup as => ckE fun k e => match e with | .Tuple es _ _ => (ck G N n as).es k es | _ => false
  | .lst _ as => ckE fun k e => match e with | .List es _ => (ck G N n as).es k es | _ => false
  | .dnew _ => ckE fun _ e => match e with | .Dict [] [] _ => true | _ => false
  | .dct as => ckE fun k e => match e with
    | .Dict ks vs _ => (match altE ks vs with | some es => (ck G N n as).es k es && decide (ks.length ≤ 15) && !ks.isEmpty | none => false)
    | _ => false
  | .lc _ own tg it cond elt => ckE fun k e => match e with
    | .ListComp x [⟨t, i, ifs, 0⟩] scope _ => blkC N k.sc scope own && notSet i && (als tg).all (fun j => (own.map (·.2)).contains j) && (ck G N n it).i k t i &&
        (ck G N n tg).g ⟨relS scope k.sc, some scope⟩ t && (ck G N n cond).c ⟨relS scope k.sc, some scope⟩ ifs && (ck G N n elt).e ⟨relS scope k.sc, some scope⟩ x
    | _ => false
  | .frz a => ckE fun k e => dfltT e && (ck G N n a).e k e
  | .lrg _ a => ckE fun k e => match e with
    | .Call (.Name x _) [.Call (.Name y _) [z] [] _] [] _ => decide (x = ("list" : Str)) && glC k.sc x && decide (y = ("range" : Str)) && glC k.sc y && notStar z && (ck G N n a).e k z
    | _ => false
  | .isi a t => ckE fun k e => match e with
    | .Call (.Name x _) [y, .Name z _] [] _ => decide (x = ("isinstance" : Str)) && glC k.sc x && decide (z = (t.nm : Str)) && glC k.sc z && decide (t ≠ .non) && notStar y && (ck G N n a).e k y
    | _ => false
  | .tnm i => { e := noX, g := fun k e => match e with | .Name x _ => decide (N[i]? = some x) && stoC k x && okN x | _ => false }
  | .ttup ts => { e := noX, g := fun k e => match e with | .Tuple es _ _ => (ck G N n ts).gs k es | _ => false }
  | .tsub o i => { e := noX, g := fun k e => match e with | .Subscript x y _ => notSlice y && (ck G N n o).e k x && (ck G N n i).e k y | _ => false }
  | .iseq a => { e := noX, i := fun k _ e => notSet e && (ck G N n a).e k e }
  | .irng1 a => { e := noX, i := fun k _ e => match e with
    | .Call (.Name x _) [y] [] _ => decide (x = ("range" : Str)) && glC k.sc x && notStar y && (ck G N n a).e k y
    | _ => false }
  | .irng2 a b => { e := noX, i := fun k _ e => match e with
    | .Call (.Name x _) [y, z] [] _ => decide (x = ("range" : Str)) && glC k.sc x && notStar y && notStar z && (ck G N n a).e k y && (ck G N n b).e k z
    | _ => false }
  | .irng3 a b c => { e := noX, i := fun k _ e => match e with
    | .Call (.Name x _) [y, z, w] [] _ => decide (x = ("range" : Str)) && glC k.sc x && notStar y && notStar z && notStar w && (ck G N n a).e k y && (ck G N n b).e k z && (ck G N n c).e k w
    | _ => false }
  | .izip a b => { e := noX, i := fun k t e => match t, e with
    | .Tuple _ _ _, .Call (.Name x _) [l, r] [] _ => decide (x = ("zip" : Str)) && glC k.sc x && notStar l && notStar r && (ck G N n a).e k l && (ck G N n b).e k r
    | _, _ => false }
  | .ienm a => { e := noX, i := fun k t e => match t, e with
    | .Tuple _ _ _, .Call (.Name x _) [l] [] _ => decide (x = ("enumerate" : Str)) && glC k.sc x && notStar l && (ck G N n a).e k l
    | _, _ => false }

/-! ### a def's promise, by plain values -/
abbrev Spec := List W → Sto → WK → XC → Prop
def spOf (K : PySem.W.Frag) (sp : Spec) : Sp := fun vs H Q E => ∃ h ws S Qw Xw, RepL ⟨K, h⟩ (fz S H) ws vs ∧ StoOk ⟨K, h⟩ S H ∧ sp ws S Qw Xw ∧
  (∀ w S' v H', StoOk ⟨K, h⟩ S' H' → Same (fz S H) (fz S' H') → Rep ⟨K, h⟩ (fz S' H') w v → Qw w S' → Q v H') ∧ XCk ⟨K, h⟩ E S H Xw
/-- what the module has, for the context's sake -/
structure GOk (P : Program) (w : World) (K : PySem.W.Frag) (mg : Str → Option Value) (base : Heap) (CX : CXT) (G : Gv) (Φ : Nat → Spec) (n : Nat) : Prop where
  fns : ∀ i x m, G.fns[i]? = some (x, m) → i < n → ∃ f fd ps, mg x = some (.ref f) ∧ PySem.W.keepIn K (.ref f) = true ∧ ps.length = m ∧ Binds K fd ps [] ∧ FnOk P w K mg base CX (i + 1) f fd ps (spOf K (Φ i))
  blt : ∀ b : Blt, mg b.nm = none
  more : mg "range" = none ∧ mg "zip" = none ∧ mg "enumerate" = none ∧ mg "isinstance" = none ∧ mg "set" = none ∧ mg "sorted" = none ∧ mg "dict" = none ∧ mg "reversed" = none ∧ mg "bool" = none
  glb : ∀ x c, (x, c) ∈ G.glb → ∃ u v w', cstW c = some w' ∧ mg x = some u ∧ RelV v u ∧ ∀ Kh F, Rep Kh F w' v
  e0 : ∀ X : Cx, X.prog = P → X.w = w → ∀ σ, PassesAt CX X σ E0
structure XOk (CX : CXT) (G : Gv) (Φ : Nat → Spec) (n : Nat) (E : L2.St → XK) (k : Sk) (X : Cx) : Prop where
  g : GOk X.prog X.w X.K X.mg X.base CX G Φ n
  calm : X.calm = true
  nd : X.N.Nodup
  room : Room n X.A
  sc : X.env.scope = k.sc
  fn : ∀ x, (∀ r, k.raw = some r → r.names.lookup x = some .cell) → X.fn x = true
  pass : ∀ σ, PassesAt CX X σ (E σ)
  own : PassesOwn (model X.prog X.w) X.A X.env X.xe
section
variable {CX : CXT} {G : Gv} {Φ : Nat → Spec} {n : Nat} {E : L2.St → XK} {k : Sk} {X : Cx}

theorem vis_of (x : XOk CX G Φ n E k X) {y : Str} (h : visC k.sc y = true) : Vis X.env.scope y := by
  rw [x.sc]
  unfold visC at h
  unfold Vis
  split at h <;> simp_all
theorem gl_of (x : XOk CX G Φ n E k X) {y : Str} (h : glC k.sc y = true) : Gl X y := by
  show X.env.scope.names.lookup y = _
  rw [x.sc]
  unfold glC at h
  split at h <;> simp_all
theorem loc_of (x : XOk CX G Φ n E k X) {y : Str} (h : stoC k y = true) : L2.Loc X.env.scope y ∧ (X.fn y = true ∨ X.env.scope.names.lookup y = some .local) := by
  rw [x.sc]
  unfold stoC at h
  unfold L2.Loc
  split at h
  · rename_i e
    exact ⟨.inl e, .inr e⟩
  · rename_i e
    refine ⟨.inr e, .inl (x.fn y fun r hr => ?_)⟩
    rw [hr] at h
    simp only at h
    split at h
    · assumption
    · cases h
  · cases h
theorem ok_dbg {y : Str} (h : okN y = true) : (y == ("__debug__" : Str)) = false ∧ (y == ("__classdict__" : Str)) = false ∧ y ≠ "__name__" := by
  unfold okN at h
  simp only [Bool.and_eq_true, Bool.not_eq_true'] at h
  refine ⟨h.1.1, h.1.2, fun e => ?_⟩
  have := h.2
  rw [e] at this
  simp at this
theorem units_of {n : Nat} {A : Around} (r : Room n A) : A.units + 65 < cLine := by have := r.un; omega
end
end MP

set_option Elab.async false
set_option linter.all false
set_option maxRecDepth 100000
set_option maxHeartbeats 4000000
/-! MP8: expressions: what is checked runs as the core says. -/
namespace MP
open PySem PySem.Spec PyProof.Rows L2

theorem star_of {e : Expr} {es : List Expr} {env : PySem.Env} (h : notStar e = true) : starEach (e :: es) env = (false, eval e env) :: starEach es env := by
  cases e <;> first | rfl | cases h
theorem asg_of {e : Expr} {es : List Expr} {env : PySem.Env} (h : notStar e = true) : assignEach (e :: es) env = (false, assign e env) :: assignEach es env := by
  cases e <;> first | rfl | cases h
theorem fold_of {e : Expr} {env : PySem.Env} (h : notSet e = true) : ∀ x, foldedSetIterable e env x = pure x := by
  intro x
  cases e <;> first | rfl | cases h
theorem mark_of {op : CmpOp} {e : Expr} (h : notSet e = true) : behindInMarks op e = false := by
  cases e <;> first | rfl | cases h
theorem plain_of {s : Expr} (h : notSlice s = true) : ∀ o i, subscripted s false o i = operate [o, i] (getItem o i) := by
  intro o i
  cases s <;> first | rfl | cases h
theorem base_of {o : Expr} {m : Str} {env : PySem.Env} {wh : Sem Value} (h : notCall0 o = true) : attributeBase o m env wh = wh := by
  unfold attributeBase
  split
  · cases h
  · rfl
theorem true_of {e : Expr} {env : PySem.Env} (h : dfltT e = true) : ∀ whole, isTrue e env whole = (do let v ← whole; standAt e.pos; holding [v] (truthy v)) := by
  intro whole
  cases e <;> first | rfl | (cases h) | skip
  rename_i op _ _
  cases op <;> first | rfl | cases h
theorem truW_v {K : KH} {S : Sto} {H : Hp} {x : W} {v : V} {b : Bool} (k : StoOk K S H) (r : Rep K (fz S H) x v) (h : truW S x = some b) : TruV K.K v H b := by
  cases x with
  | non => cases r; cases h; rfl
  | bl c => cases r; cases h; rfl
  | int i => cases r; cases h; rfl
  | str z =>
    cases r
    have h' : (if z.length ≤ sizeLine then some ((z.length : Int) != 0) else none) = some b := h
    by_cases hl : z.length ≤ sizeLine
    · rw [if_pos hl] at h'
      cases h'
      exact ⟨hl, rfl⟩
    · rw [if_neg hl] at h'
      cases h'
  | tup ws =>
    cases h
    obtain ⟨a, vs, rfl, ha, ra⟩ := tup_sq r
    exact .inr (.inl ⟨vs, .of ha, by cases ra <;> rfl⟩)
  | lst ws =>
    cases h
    obtain ⟨a, vs, rfl, ha, ra⟩ := rdL_sq k r rfl
    exact .inl ⟨vs, ha.sq, by cases ra <;> rfl⟩
  | ref a =>
    cases r
    cases e : S a with
    | none => simp [truW, e] at h
    | some o =>
      simp only [truW, e, Option.bind_some] at h
      obtain ⟨u, hu, q⟩ := k.at' a o e
      cases o with
      | lst ws =>
        cases h
        obtain ⟨vs, rfl, ra⟩ := q
        exact .inl ⟨vs, .of hu, by cases ra <;> rfl⟩
      | dk kvs =>
        cases h
        obtain ⟨vs, rfl, ra⟩ := q
        exact .inr (.inr ⟨vs, hu, by cases ra <;> rfl⟩)
      | _ => cases h
theorem cst_v {Kh : KH} {F : Hp} {c : Const} {w : W} (h : cstW c = some w) : ∃ v, Rep Kh F w v ∧ ∀ (X : Cx) j pos, PE X (.Constant c j pos) (tC v) := by
  cases c with
  | none => cases h; exact ⟨_, .non, fun _ _ _ => pe_non⟩
  | bool b => cases h; exact ⟨_, .bl b, fun _ _ _ => pe_bl⟩
  | int i => cases h; exact ⟨_, .int i, fun _ _ _ => pe_int⟩
  | str x => cases h; exact ⟨_, .str x, fun _ _ _ => pe_str⟩
  | _ => cases h
theorem blt_okN : ∀ b : Blt, okN b.nm = true := by intro b; cases b <;> decide +kernel
theorem blt_boot : ∀ b : Blt, bootBuiltins b.nm = some b.val := by intro b; cases b <;> decide +kernel

section
variable {CX : CXT} {G : Gv} {Φ : Nat → Spec} {n : Nat}
/-- what a piece of the core is worth -/
structure Snd (CX : CXT) (G : Gv) (Φ : Nat → Spec) (n : Nat) (c : CE) : Prop where
  e : ∀ {N : List Str} {E : L2.St → XK} {k : Sk} {X : Cx} {x : Expr}, XOk CX G Φ n E k X → X.N = N → (ck G N n c).e k x = true → PE X x (tOf ⟨X.K, E⟩ (wp Φ c).e)
  t : ∀ {N : List Str} {E : L2.St → XK} {k : Sk} {X : Cx} {x : Expr}, XOk CX G Φ n E k X → X.N = N → (ck G N n c).e k x = true → PT X x (tOfT ⟨X.K, E⟩ (wp Φ c).t)
  es : ∀ {N : List Str} {E : L2.St → XK} {k : Sk} {X : Cx} {xs : List Expr}, XOk CX G Φ n E k X → X.N = N → (ck G N n c).es k xs = true → PA X xs (tOfA ⟨X.K, E⟩ (wp Φ c).es)
  an : ∀ {N : List Str} {E : L2.St → XK} {k : Sk} {X : Cx} {xs : List Expr} {pos : Pos}, XOk CX G Φ n E k X → X.N = N → (ck G N n c).es k xs = true → xs ≠ [] → PE X (.BoolOp .And xs pos) (tOf ⟨X.K, E⟩ (wp Φ c).an)
  or : ∀ {N : List Str} {E : L2.St → XK} {k : Sk} {X : Cx} {xs : List Expr} {pos : Pos}, XOk CX G Φ n E k X → X.N = N → (ck G N n c).es k xs = true → xs ≠ [] → PE X (.BoolOp .Or xs pos) (tOf ⟨X.K, E⟩ (wp Φ c).or)
  ant : ∀ {N : List Str} {E : L2.St → XK} {k : Sk} {X : Cx} {xs : List Expr} {pos : Pos}, XOk CX G Φ n E k X → X.N = N → (ck G N n c).es k xs = true → xs ≠ [] → PW X (.BoolOp .And xs pos) (tOfT ⟨X.K, E⟩ (wp Φ c).ant)
  ort : ∀ {N : List Str} {E : L2.St → XK} {k : Sk} {X : Cx} {xs : List Expr} {pos : Pos}, XOk CX G Φ n E k X → X.N = N → (ck G N n c).es k xs = true → xs ≠ [] → PW X (.BoolOp .Or xs pos) (tOfT ⟨X.K, E⟩ (wp Φ c).ort)
  ns : ∀ {N : List Str} {k : Sk} {xs : List Expr}, (ck G N n c).es k xs = true → xs.all notStar = true
  more : ∀ {N : List Str} {k : Sk} {xs : List Expr}, (ck G N n c).es k xs = true → ((wp Φ c).more = true ↔ xs ≠ [])
  o : ∀ {N : List Str} {E : L2.St → XK} {k : Sk} {X : Cx} {x : Option Expr}, XOk CX G Φ n E k X → X.N = N → (ck G N n c).o k x = true → PO X x (tOfO ⟨X.K, E⟩ (wp Φ c).o)
  cc : ∀ {N : List Str} {E : L2.St → XK} {k : Sk} {X : Cx} {xs : List Expr}, XOk CX G Φ n E k X → X.N = N → (ck G N n c).c k xs = true → PTs X xs (tOfT ⟨X.K, E⟩ fun ρ S Q _ => (wp Φ c).c ρ S Q)
  g : ∀ {N : List Str} {E : L2.St → XK} {k : Sk} {X : Cx} {x : Expr}, XOk CX G Φ n E k X → X.N = N → (ck G N n c).g k x = true → PG X x (tOfG ⟨X.K, E⟩ (als c) (wp Φ c).g)
  gs : ∀ {N : List Str} {E : L2.St → XK} {k : Sk} {X : Cx} {xs : List Expr}, XOk CX G Φ n E k X → X.N = N → (ck G N n c).gs k xs = true → PGs X xs (tOfGs ⟨X.K, E⟩ (als c) (wp Φ c).gs) ∧
    (assignEach xs X.env).length = xs.length ∧ (assignEach xs X.env).findIdx? (·.1) = none
  i : ∀ {N : List Str} {E : L2.St → XK} {k : Sk} {X : Cx} {t x : Expr}, XOk CX G Φ n E k X → X.N = N → (ck G N n c).i k t x = true → PI X t x (tOfI ⟨X.K, E⟩ (wp Φ c).i)
/-- an expression whose truth is asked plainly -/
theorem sndE {c : CE} (e : WE) (f : List Str → Sk → Expr → Bool) (hw : wp Φ c = rdE e) (hc : ∀ N, ck G N n c = ckE (f N)) (hd : ∀ N k x, f N k x = true → dfltT x = true)
    (h : ∀ {N : List Str} {E : L2.St → XK} {k : Sk} {X : Cx} {x : Expr}, XOk CX G Φ n E k X → X.N = N → f N k x = true → PE X x (tOf ⟨X.K, E⟩ e)) : Snd CX G Φ n c := by
  have he : ∀ {N : List Str} {E : L2.St → XK} {k : Sk} {X : Cx} {x : Expr}, XOk CX G Φ n E k X → X.N = N → (ck G N n c).e k x = true → PE X x (tOf ⟨X.K, E⟩ (wp Φ c).e) := fun {N E k X x} x' hN hx => by
    rw [hc] at hx
    rw [hw]
    exact h x' hN hx
  refine ⟨he, fun {N E k X x} x' hN hx => ?_, fun {N E k X x} x' hN hx => ?_, fun {N E k X x p} x' hN hx => ?_, fun {N E k X x p} x' hN hx => ?_, fun {N E k X x p} x' hN hx => ?_, fun {N E k X x p} x' hN hx => ?_,
    fun {N k x} hx => ?_, fun {N k x} hx => ?_, fun {N E k X x} x' hN hx => ?_, fun {N E k X x} x' hN hx => ?_, fun {N E k X x} x' hN hx => ?_, fun {N E k X x} x' hN hx => ?_, fun {N E k X t x} x' hN hx => ?_⟩
  · have h1 := he x' hN hx
    rw [hc] at hx
    rw [hw] at h1 ⊢
    refine PT.imp (pt_truth h1 (true_of (hd _ _ _ hx))) fun σ H Q q => ?_
    obtain ⟨hh, ρ, S, Q0, Y, s, q, kv, kx⟩ := q
    refine ⟨hh, ρ, S, _, Y, s, q, fun w S1 v H1 s1 e1 r1 q1 => ?_, kx⟩
    obtain ⟨b, hb, q1⟩ := q1
    exact ⟨b, truW_v s1.sto r1 hb, kv b S1 H1 s1 e1 q1⟩
  · rw [hc] at hx; cases hx
  · rw [hc] at hx; cases hx
  · rw [hc] at hx; cases hx
  · rw [hc] at hx; cases hx
  · rw [hc] at hx; cases hx
  · rw [hc] at hx; cases hx
  · rw [hc] at hx; cases hx
  · rw [hc] at hx
    cases x with
    | none => cases hx
    | some x =>
      rw [hw]
      refine PO.imp (po_some (h x' hN hx)) fun σ H Q q => ?_
      obtain ⟨hh, ρ, S, Q0, Y, s, q, kv, kx⟩ := q
      refine ⟨hh, ρ, S, _, Y, s, q, fun w S1 v H1 s1 e1 r1 q1 => ?_, kx⟩
      obtain ⟨i, rfl, q1⟩ := q1
      cases r1
      exact ⟨i, rfl, kv _ S1 H1 s1 e1 q1⟩
  · rw [hc] at hx; cases hx
  · rw [hc] at hx; cases hx
  · rw [hc] at hx; cases hx
  · rw [hc] at hx; cases hx
/-- an expression that has a test of its own -/
theorem sndT {c : CE} (e : WE) (t : Env → Sto → (Bool → Sto → Prop) → XC → Prop) (f : List Str → Sk → Expr → Bool) (hw : wp Φ c = rdT e t) (hc : ∀ N, ck G N n c = ckT (f N))
    (h : ∀ {N : List Str} {E : L2.St → XK} {k : Sk} {X : Cx} {x : Expr}, XOk CX G Φ n E k X → X.N = N → f N k x = true → PE X x (tOf ⟨X.K, E⟩ e) ∧ PT X x (tOfT ⟨X.K, E⟩ t)) : Snd CX G Φ n c := by
  refine ⟨fun {N E k X x} x' hN hx => ?_, fun {N E k X x} x' hN hx => ?_, fun {N E k X x} x' hN hx => ?_, fun {N E k X x p} x' hN hx => ?_, fun {N E k X x p} x' hN hx => ?_, fun {N E k X x p} x' hN hx => ?_, fun {N E k X x p} x' hN hx => ?_,
    fun {N k x} hx => ?_, fun {N k x} hx => ?_, fun {N E k X x} x' hN hx => ?_, fun {N E k X x} x' hN hx => ?_, fun {N E k X x} x' hN hx => ?_, fun {N E k X x} x' hN hx => ?_, fun {N E k X t x} x' hN hx => ?_⟩
  · rw [hc] at hx
    rw [hw]
    exact (h x' hN hx).1
  · rw [hc] at hx
    rw [hw]
    exact (h x' hN hx).2
  all_goals (rw [hc] at hx; cases hx)
/-- a piece that is a target, or what is walked, alone -/
theorem sndO {c : CE} (he : ∀ N k x, (ck G N n c).e k x = false) (hes : ∀ N k x, (ck G N n c).es k x = false) (ho : ∀ N k x, (ck G N n c).o k x = false) (hcc : ∀ N k x, (ck G N n c).c k x = false) (hgs : ∀ N k x, (ck G N n c).gs k x = false)
    (g : ∀ {N : List Str} {E : L2.St → XK} {k : Sk} {X : Cx} {x : Expr}, XOk CX G Φ n E k X → X.N = N → (ck G N n c).g k x = true → PG X x (tOfG ⟨X.K, E⟩ (als c) (wp Φ c).g))
    (i : ∀ {N : List Str} {E : L2.St → XK} {k : Sk} {X : Cx} {t x : Expr}, XOk CX G Φ n E k X → X.N = N → (ck G N n c).i k t x = true → PI X t x (tOfI ⟨X.K, E⟩ (wp Φ c).i)) : Snd CX G Φ n c := by
  refine ⟨fun {N E k X x} x' hN hx => ?_, fun {N E k X x} x' hN hx => ?_, fun {N E k X x} x' hN hx => ?_, fun {N E k X x p} x' hN hx => ?_, fun {N E k X x p} x' hN hx => ?_, fun {N E k X x p} x' hN hx => ?_, fun {N E k X x p} x' hN hx => ?_,
    fun {N k x} hx => ?_, fun {N k x} hx => ?_, fun {N E k X x} x' hN hx => ?_, fun {N E k X x} x' hN hx => ?_, g, fun {N E k X x} x' hN hx => ?_, i⟩
  · rw [he] at hx; cases hx
  · rw [he] at hx; cases hx
  · rw [hes] at hx; cases hx
  · rw [hes] at hx; cases hx
  · rw [hes] at hx; cases hx
  · rw [hes] at hx; cases hx
  · rw [hes] at hx; cases hx
  · rw [hes] at hx; cases hx
  · rw [hes] at hx; cases hx
  · rw [ho] at hx; cases hx
  · rw [hcc] at hx; cases hx
  · rw [hgs] at hx; cases hx

/-! ### the pieces -/
theorem snd_var (i : Nat) : Snd CX G Φ n (.var i) := by
  refine sndE _ _ rfl (fun N => rfl) (fun N k x hx => by cases x <;> first | rfl | cases hx) fun {N E k X x} o hN hx => ?_
  cases x with
  | Name y p =>
    simp only [Bool.and_eq_true] at hx
    obtain ⟨⟨h1, h2⟩, h3⟩ := hx
    have d := ok_dbg h3
    refine PE.imp (pe_var (i := i) (by rw [hN]; exact of_decide_eq_true h1) (vis_of o h2) d.1 d.2.1) fun σ H Q q => ?_
    obtain ⟨hh, ρ, S, Q0, Y, s, ⟨w, hw, q⟩, kv, kx⟩ := q
    obtain ⟨v, hv, r⟩ := s.var i w hw
    exact ⟨v, hv, kv.give s r q⟩
  | _ => cases hx
theorem snd_cst (c : Const) : Snd CX G Φ n (.cst c) := by
  refine sndE _ _ rfl (fun N => rfl) (fun N k x hx => by cases x <;> first | rfl | cases hx) fun {N E k X x} o hN hx => ?_
  cases x with
  | Constant c' j p =>
    simp only [Bool.and_eq_true] at hx
    obtain ⟨h1, h2⟩ := hx
    obtain rfl := of_decide_eq_true h1
    obtain ⟨w, hw⟩ := Option.isSome_iff_exists.mp h2
    obtain ⟨v, hv⟩ : ∃ v, ∀ (Kh : KH) (F : Hp), Rep Kh F w v ∧ ∀ (X : Cx) j pos, PE X (.Constant c' j pos) (tC v) := by
      cases c' <;> first
        | (cases hw; exact ⟨_, fun _ _ => ⟨.non, fun _ _ _ => pe_non⟩⟩)
        | (cases hw; exact ⟨_, fun _ _ => ⟨.bl _, fun _ _ _ => pe_bl⟩⟩)
        | (cases hw; exact ⟨_, fun _ _ => ⟨.int _, fun _ _ _ => pe_int⟩⟩)
        | (cases hw; exact ⟨_, fun _ _ => ⟨.str _, fun _ _ _ => pe_str⟩⟩)
        | cases hw
    refine PE.imp ((hv ⟨X.K, fun _ => false⟩ (fun _ => none)).2 X j p) fun σ H Q q => ?_
    obtain ⟨hh, ρ, S, Q0, Y, s, ⟨w', hw', q⟩, kv, kx⟩ := q
    rw [hw] at hw'
    cases hw'
    exact kv.give s (hv _ _).1 q
  | _ => cases hx
theorem snd_glb (x : Str) (c : Const) : Snd CX G Φ n (.glb x c) := by
  refine sndE _ _ rfl (fun N => rfl) (fun N k x hx => by cases x <;> first | rfl | cases hx) fun {N E k X z} o hN hx => ?_
  cases z with
  | Name y p =>
    simp only [Bool.and_eq_true] at hx
    obtain ⟨⟨⟨h1, h2⟩, h3⟩, h4⟩ := hx
    obtain rfl := of_decide_eq_true h1
    obtain ⟨u, v, w, hw, hm, hr, rep⟩ := o.g.glb y c (of_decide_eq_true h4)
    refine PE.imp (pe_glob (gl_of o h2) hm hr (ok_dbg h3).1) fun σ H Q q => ?_
    obtain ⟨hh, ρ, S, Q0, Y, s, ⟨w', hw', q⟩, kv, kx⟩ := q
    rw [hw] at hw'
    cases hw'
    exact kv.give s (rep _ _) q
  | _ => cases hx
theorem snd_bin {live : Bool} {op : Bop} {a b : CE} (ha : Snd CX G Φ n a) (hb : Snd CX G Φ n b) : Snd CX G Φ n (.bin live op a b) := by
  refine sndE _ _ rfl (fun N => rfl) (fun N k x hx => by cases x <;> first | rfl | cases hx) fun {N E k X x} o hN hx => ?_
  cases x with
  | BinOp l p r pos =>
    simp only [Bool.and_eq_true] at hx
    obtain ⟨⟨h1, h2⟩, h3⟩ := hx
    obtain rfl := of_decide_eq_true h1
    exact PE.imp (pe_op (op_bop op) (ha.e o hN h2) (hb.e o hN h3)) fun σ H Q q => tOf_op (fun h => ops_bop op) q
  | _ => cases hx
theorem snd_neg {a : CE} (ha : Snd CX G Φ n a) : Snd CX G Φ n (.neg a) := by
  refine sndE _ (fun N k e => match e with | .UnaryOp .USub l _ => (ck G N n a).e k l | _ => false) rfl (fun N => rfl) (fun N k x hx => ?_) fun {N E k X x} o hN hx => ?_
  · split at hx
    · rfl
    · cases hx
  · split at hx
    · refine PE.imp (pe_un un_neg (ha.e o hN hx)) fun σ H Q q => ?_
      obtain ⟨hh, ρ, S, Q0, Y, s, q, kv, kx⟩ := q
      refine ⟨hh, ρ, S, _, Y, s, q, fun w S1 v H1 s1 e1 r1 q1 => ?_, kx⟩
      obtain ⟨i, rfl, q1⟩ := q1
      cases r1
      exact ⟨i, rfl, (kv.to e1).give s1 (.int _) q1⟩
    · cases hx
theorem snd_nt {a : CE} (ha : Snd CX G Φ n a) : Snd CX G Φ n (.nt a) := by
  refine sndT _ _ (fun N k e => match e with | .UnaryOp .Not l _ => (ck G N n a).e k l | _ => false) rfl (fun N => rfl) fun {N E k X x} o hN hx => ?_
  split at hx
  · refine ⟨PE.imp (pe_notT (ha.e o hN hx)) fun σ H Q q => ?_, PT.imp (pt_not (ha.t o hN hx)) fun σ H Q q => ?_⟩
    · obtain ⟨hh, ρ, S, Q0, Y, s, q, kv, kx⟩ := q
      refine ⟨hh, ρ, S, _, Y, s, q, fun w S1 v H1 s1 e1 r1 q1 => ?_, kx⟩
      obtain ⟨b, hb, q1⟩ := q1
      exact ⟨b, truW_v s1.sto r1 hb, (kv.to e1).give s1 (.bl _) q1⟩
    · obtain ⟨hh, ρ, S, Q0, Y, s, q, kv, kx⟩ := q
      exact ⟨hh, ρ, S, _, Y, s, q, fun b S1 H1 s1 e1 q1 => kv _ S1 H1 s1 e1 q1, kx⟩
  · cases hx
theorem snd_cmp {op : CmpOp} {a b : CE} (ha : Snd CX G Φ n a) (hb : Snd CX G Φ n b) : Snd CX G Φ n (.cmp op a b) := by
  refine sndT _ _ (fun N k e => match e with | .Compare l [o] [r] _ => decide (o = op) && notSet r && (ck G N n a).e k l && (ck G N n b).e k r | _ => false) rfl (fun N => rfl) fun {N E k X x} o hN hx => ?_
  split at hx
  · simp only [Bool.and_eq_true] at hx
    obtain ⟨⟨⟨h1, h2⟩, h3⟩, h4⟩ := hx
    obtain rfl := of_decide_eq_true h1
    have R := op_cmp (X := X) (units_of o.room)
    refine ⟨PE.imp (pe_cmpR (R _) (ha.e o hN h3) (hb.e o hN h4) (mark_of h2)) fun σ H Q q => ?_, PT.imp (pt_cmpR (R _) (ha.e o hN h3) (hb.e o hN h4) (mark_of h2)) fun σ H Q q => ?_⟩
    · obtain ⟨hh, ρ, S, Q0, Y, s, q, kv, kx⟩ := q
      refine ⟨hh, ρ, S, _, Y, s, q, fun x S1 vx H1 s1 e1 r1 q1 => ⟨hh, ρ, S1, _, Y, s1, q1, fun y S2 vy H2 s2 e2 r2 q2 => ?_, kx.to e1⟩, kx⟩
      exact cmps (C := (⟨X.K, E⟩ : Ct0).at hh) _ x y vx vy S2 H2 _ _ s2.sto (r1.mono e2) r2 q2 fun b q => (kv.to (e1.trans e2)).give s2 (.bl b) q
    · obtain ⟨hh, ρ, S, Q0, Y, s, q, kv, kx⟩ := q
      refine ⟨hh, ρ, S, _, Y, s, q, fun x S1 vx H1 s1 e1 r1 q1 => ⟨hh, ρ, S1, _, Y, s1, q1, fun y S2 vy H2 s2 e2 r2 q2 => ?_, kx.to e1⟩, kx⟩
      exact cmps (C := (⟨X.K, E⟩ : Ct0).at hh) _ x y vx vy S2 H2 _ _ s2.sto (r1.mono e2) r2 q2 fun b q => ⟨b, rfl, kv b S2 H2 s2 (e1.trans e2) q⟩
  · cases hx
end
end MP

set_option Elab.async false
set_option linter.all false
set_option maxRecDepth 100000
set_option maxHeartbeats 4000000
/-! MP9: expressions, further. -/
namespace MP
open PySem PySem.Spec PyProof.Rows L2

section
variable {CX : CXT} {G : Gv} {Φ : Nat → Spec} {n : Nat}
theorem marks2 {o1 o2 : CmpOp} {a b : Expr} (h : notSet b = true) : lastMarks [o1, o2] [a, b] = false := by
  show behindInMarks o2 b = false
  exact mark_of h
theorem snd_chain {o1 o2 : CmpOp} {a b d : CE} (ha : Snd CX G Φ n a) (hb : Snd CX G Φ n b) (hd : Snd CX G Φ n d) : Snd CX G Φ n (.chain o1 o2 a b d) := by
  refine sndT _ _ (fun N k e => match e with | .Compare l [p, q] [m, r] _ => decide (p = o1) && decide (q = o2) && notSet r && notSet m && (ck G N n a).e k l && (ck G N n b).e k m && (ck G N n d).e k r | _ => false) rfl (fun N => rfl) fun {N E k X x} o hN hx => ?_
  split at hx
  · simp only [Bool.and_eq_true] at hx
    obtain ⟨⟨⟨⟨⟨⟨h1, h2⟩, h3⟩, h3'⟩, h4⟩, h5⟩, h6⟩ := hx
    obtain rfl := of_decide_eq_true h1
    obtain rfl := of_decide_eq_true h2
    have R := op_cmp (X := X) (units_of o.room)
    have S := fun hh o' => cmps (C := (⟨X.K, E⟩ : Ct0).at hh) o'
    refine ⟨PE.imp (pe_chain (R _) (R _) (ha.e o hN h4) (hb.e o hN h5) (hd.e o hN h6) (marks2 h3)) fun σ H Q q => ?_, PT.imp (pt_chain (R _) (R _) (ha.e o hN h4) (hb.e o hN h5) (hd.e o hN h6) (marks2 h3)) fun σ H Q q => ?_⟩
    · obtain ⟨hh, ρ, S0, Q0, Y, s, q, kv, kx⟩ := q
      refine ⟨hh, ρ, S0, _, Y, s, q, fun x S1 vx H1 s1 e1 r1 q1 => ⟨hh, ρ, S1, _, Y, s1, q1, fun y S2 vy H2 s2 e2 r2 q2 => ?_, kx.to e1⟩, kx⟩
      have e12 := e1.trans e2
      refine S hh _ x y vx vy S2 H2 _ _ s2.sto (r1.mono e2) r2 q2 fun b q => ⟨b, rfl, ?_⟩
      cases b with
      | true =>
        rw [if_pos rfl] at q
        refine iteT ⟨hh, ρ, S2, _, Y, s2, q, fun z S3 vz H3 s3 e3 r3 q3 => ?_, kx.to e12⟩
        exact S hh _ y z vy vz S3 H3 _ _ s3.sto (r2.mono e3) r3 q3 fun b q => (kv.to (e12.trans e3)).give s3 (.bl b) q
      | false =>
        rw [if_neg Bool.false_ne_true] at q
        exact iteF ((kv.to e12).give s2 (.bl _) q)
    · obtain ⟨hh, ρ, S0, Q0, Y, s, q, kv, kx⟩ := q
      refine ⟨hh, ρ, S0, _, Y, s, q, fun x S1 vx H1 s1 e1 r1 q1 => ⟨hh, ρ, S1, _, Y, s1, q1, fun y S2 vy H2 s2 e2 r2 q2 => ?_, kx.to e1⟩, kx⟩
      have e12 := e1.trans e2
      refine S hh _ x y vx vy S2 H2 _ _ s2.sto (r1.mono e2) r2 q2 fun b q => ⟨b, rfl, ?_⟩
      cases b with
      | true =>
        rw [if_pos rfl] at q
        refine iteT ⟨hh, ρ, S2, _, Y, s2, q, fun z S3 vz H3 s3 e3 r3 q3 => ?_, kx.to e12⟩
        exact S hh _ y z vy vz S3 H3 _ _ s3.sto (r2.mono e3) r3 q3 fun b q => ⟨b, rfl, kv b S3 H3 s3 (e12.trans e3) q⟩
      | false =>
        rw [if_neg Bool.false_ne_true] at q
        exact iteF ⟨false, rfl, kv _ S2 H2 s2 e12 q⟩
  · cases hx
theorem snd_an {as : CE} (ha : Snd CX G Φ n as) : Snd CX G Φ n (.an as) := by
  refine sndT _ _ (fun N k e => match e with | .BoolOp .And es _ => !es.isEmpty && (ck G N n as).es k es | _ => false) rfl (fun N => rfl) fun {N E k X x} o hN hx => ?_
  split at hx
  · simp only [Bool.and_eq_true] at hx
    have ne : ∀ {es : List Expr}, (!es.isEmpty) = true → es ≠ [] := fun h e => by subst e; cases h
    exact ⟨ha.an o hN hx.2 (ne hx.1), (ha.ant o hN hx.2 (ne hx.1)).pt⟩
  · cases hx
theorem snd_or {as : CE} (ha : Snd CX G Φ n as) : Snd CX G Φ n (.or as) := by
  refine sndT _ _ (fun N k e => match e with | .BoolOp .Or es _ => !es.isEmpty && (ck G N n as).es k es | _ => false) rfl (fun N => rfl) fun {N E k X x} o hN hx => ?_
  split at hx
  · simp only [Bool.and_eq_true] at hx
    have ne : ∀ {es : List Expr}, (!es.isEmpty) = true → es ≠ [] := fun h e => by subst e; cases h
    exact ⟨ha.or o hN hx.2 (ne hx.1), (ha.ort o hN hx.2 (ne hx.1)).pt⟩
  · cases hx
theorem snd_frz {a : CE} (ha : Snd CX G Φ n a) : Snd CX G Φ n (.frz a) := by
  refine sndE _ _ rfl (fun N => rfl) (fun N k x hx => by simp only [Bool.and_eq_true] at hx; exact hx.1) fun {N E k X x} o hN hx => ?_
  simp only [Bool.and_eq_true] at hx
  refine PE.imp (ha.e o hN hx.2) fun σ H Q q => ?_
  obtain ⟨hh, ρ, S, Q0, Y, s, q, kv, kx⟩ := q
  refine ⟨hh, ρ, S, _, Y, s, q, fun w S1 v H1 s1 e1 r1 q1 => ?_, kx⟩
  obtain ⟨p, ws, rfl, hp, q1⟩ := q1
  cases r1
  obtain ⟨u, hu, vs, rfl, r⟩ := s1.sto.at' p _ hp
  have hf : fz (sdel S1 p) H1 p = some (.lst vs) := by rw [fz_none sdel_same]; exact hu
  have nh : (⟨X.K, hh⟩ : KH).h p = false := by
    cases e : (⟨X.K, hh⟩ : KH).h p with
    | false => rfl
    | true =>
      have := (s1.sto.hid p e).1
      rw [hp] at this; cases this
  exact kv _ _ _ _ (s1.to same_del s1.sto.del) (e1.trans same_del) (.lst nh (.inl hf) (r.mono same_del)) q1
/-! ### calls -/
theorem any_of {pos : Pos} {env : PySem.Env} : ∀ {xs : List Expr}, xs.all notStar = true → (backTo pos (starEach xs env)).any (·.1) = false
  | [], _ => rfl
  | x :: xs, h => by
    rw [List.all_cons, Bool.and_eq_true] at h
    rw [star_of h.1]
    show ((false || (backTo pos (starEach xs env)).any (·.1)) = false)
    rw [any_of h.2]
    rfl
theorem all_of {pos : Pos} {env : PySem.Env} : ∀ {xs : List Expr}, xs.all notStar = true → (backTo pos (starEach xs env)).all (fun x => !x.1) = true
  | [], _ => rfl
  | x :: xs, h => by
    rw [List.all_cons, Bool.and_eq_true] at h
    rw [star_of h.1]
    show ((true && (backTo pos (starEach xs env)).all (fun x => !x.1)) = true)
    rw [all_of h.2]
    rfl
theorem es_nil {N : List Str} {k : Sk} {as : CE} (h : (ck G N n as).es k [] = true) : as = .nil := by
  cases as <;> first | rfl | cases h
theorem snd_call {f : Nat} {as : CE} (ha : Snd CX G Φ n as) : Snd CX G Φ n (.call f as) := by
  refine sndE _ (fun N k e => match e with
    | .Call (.Name x _) es [] _ => decide (G.fns[f]? = some (x, es.length)) && decide (f < n) && glC k.sc x && okN x && (ck G N n as).es k es
    | _ => false) rfl (fun N => rfl) (fun N k x hx => ?_) fun {N E k X x} o hN hx => ?_
  · split at hx
    · rfl
    · cases hx
  · split at hx
    · rename_i y p es pos
      simp only [Bool.and_eq_true] at hx
      obtain ⟨⟨⟨⟨h1, h2⟩, h3⟩, h4⟩, h5⟩ := hx
      have hl := of_decide_eq_true h2
      obtain ⟨fa, fd, ps, hm, hk, hp, hb, F⟩ := o.g.fns f y es.length (of_decide_eq_true h1) hl
      have hr : Room (f + 1) X.A := o.room.mono hl
      have run : ∀ (σ : L2.St) (H : Hp) (Q : VK), tOf ⟨X.K, E⟩ (wp Φ (.call f as)).e σ H Q → tOfA ⟨X.K, E⟩ (wp Φ as).es σ H (fun vs H1 => spOf X.K (Φ f) vs H1 Q (E σ)) := fun σ H Q q => by
        obtain ⟨hh, ρ, S, Q0, Y, s, q, kv, kx⟩ := q
        refine ⟨hh, ρ, S, _, Y, s, q, fun ws S1 vs H1 s1 e1 r1 q1 => ?_, kx⟩
        exact ⟨hh, ws, S1, Q0, Y, r1, s1.sto, q1, fun w S2 v H2 s2 e2 r2 q2 => kv _ _ _ _ (s1.to e2 s2) (e1.trans e2) r2 q2, kx.to e1⟩
      cases es with
      | nil =>
        obtain rfl := es_nil h5
        refine ⟨fun pins s σ H Q I h => ?_⟩
        refine wpAny_Call_Name_kw (ld_glob I (gl_of o h3) hm ?_ (ok_dbg h4).1)
        obtain ⟨hh, ρ, S, Q0, Y, s, q, kv, kx⟩ := run σ H Q h
        exact PySem.W.callWith_K0 I.kIn hk (run_fnS (us := []) F hr hb (o.pass σ) I .nil (kv [] S [] H s (Same.refl _) .nil q))
      | cons e es =>
        have hs := ha.ns h5
        rw [List.all_cons, Bool.and_eq_true] at hs
        exact PE.imp (pe_callS F hr (gl_of o h3) hm hk hb o.pass (ha.es o hN h5) (ok_dbg h4).1 (star_of hs.1) (any_of hs.2)) fun σ H Q q => run σ H Q q
    · cases hx
theorem snd_blt {b : Blt} {live : Bool} {as : CE} (ha : Snd CX G Φ n as) : Snd CX G Φ n (.blt b live as) := by
  refine sndE _ (fun N k e => match e with
    | .Call (.Name x _) es [] _ => decide (x = b.nm) && !es.isEmpty && glC k.sc x && (ck G N n as).es k es
    | _ => false) rfl (fun N => rfl) (fun N k x hx => ?_) fun {N E k X x} o hN hx => ?_
  · split at hx
    · rfl
    · cases hx
  · split at hx
    · rename_i y p es pos
      simp only [Bool.and_eq_true] at hx
      obtain ⟨⟨⟨h1, h2⟩, h3⟩, h5⟩ := hx
      obtain rfl := of_decide_eq_true h1
      cases es with
      | nil => cases h2
      | cons e es =>
        have hs := ha.ns h5
        rw [List.all_cons, Bool.and_eq_true] at hs
        have d := ok_dbg (blt_okN b)
        have R := call_blt (X := X) o.calm (by have := o.room.un; omega) b
        have run : ∀ (σ : L2.St) (H : Hp) (Q : VK), tOf ⟨X.K, E⟩ (wp Φ (.blt b live as)).e σ H Q → tCB (rBlt X.K b) (tOfA ⟨X.K, E⟩ (wp Φ as).es) σ H Q := fun σ H Q q => by
          obtain ⟨hh, ρ, S, Q0, Y, s, q, kv, kx⟩ := q
          refine ⟨hh, ρ, S, _, Y, s, q, fun ws S1 vs H1 s1 e1 r1 q1 => ?_, kx⟩
          exact blts (C := (⟨X.K, E⟩ : Ct0).at hh) b s1 r1 q1 (kv.to e1)
        have hv := blt_boot b
        have hm := o.g.blt b
        have hB : ∀ id, b.val = .builtin id → PE X (.Call (.Name b.nm p) (e :: es) [] pos) (tCB (rBlt X.K b) (tOfA ⟨X.K, E⟩ (wp Φ as).es)) := fun id he => by
          rw [he] at R hv
          exact pe_callB R (gl_of o h3) hm hv (ha.es o hN h5) d.2.2 d.1 (star_of hs.1) (any_of hs.2)
        have hT : ∀ id, b.val = .type id → PE X (.Call (.Name b.nm p) (e :: es) [] pos) (tCB (rBlt X.K b) (tOfA ⟨X.K, E⟩ (wp Φ as).es)) := fun id he => by
          rw [he] at R hv
          exact pe_callTy R (gl_of o h3) hm hv (ha.es o hN h5) d.2.2 d.1 (star_of hs.1) (any_of hs.2)
        refine PE.imp ?_ run
        cases b <;> first | exact hB _ rfl | exact hT _ rfl
    · cases hx
theorem snd_mth {m : Mth} {a as : CE} (ho : Snd CX G Φ n a) (ha : Snd CX G Φ n as) : Snd CX G Φ n (.mth m a as) := by
  refine sndE _ (fun N k e => match e with
    | .Call (.Attribute x y apos) es [] cpos => decide (y = m.nm) && (apos.endLine == cpos.line) && decide (es.length < 30) && notCall0 x && (ck G N n a).e k x && (ck G N n as).es k es
    | _ => false) rfl (fun N => rfl) (fun N k x hx => ?_) fun {N E k X x} o hN hx => ?_
  · split at hx
    · rfl
    · cases hx
  · split at hx
    · rename_i x y apos es cpos
      simp only [Bool.and_eq_true] at hx
      obtain ⟨⟨⟨⟨⟨h1, h2⟩, h3⟩, h4⟩, h5⟩, h6⟩ := hx
      obtain rfl := of_decide_eq_true h1
      have hl := of_decide_eq_true h3
      cases es with
      | nil =>
        obtain rfl := es_nil h6
        refine PE.imp (pe_bm0 m.plain m.slot m.type (mt_all m) (ho.e o hN h5) (base_of h4) h2) fun σ H Q q => ?_
        obtain ⟨hh, ρ, S, Q0, Y, s, q, kv, kx⟩ := q
        refine ⟨hh, ρ, S, _, Y, s, q, fun w S1 v H1 s1 e1 r1 q1 => ?_, kx⟩
        exact ⟨rcvs (C := (⟨X.K, E⟩ : Ct0).at hh) s1.sto r1 q1.1, mths (C := (⟨X.K, E⟩ : Ct0).at hh) m s1 r1 .nil q1.2 (kv.to e1)⟩
      | cons e es =>
        have hs := ha.ns h6
        have hs' := hs
        rw [List.all_cons, Bool.and_eq_true] at hs
        refine PE.imp (pe_bm m.plain m.slot m.type (mt_all m) (ho.e o hN h5) (ha.es o hN h6) (base_of h4) ?_ h2 (star_of hs.1) (any_of hs.2)) fun σ H Q q => ?_
        · rw [all_of hs']
          simp only [Bool.true_and, Bool.and_eq_true, decide_eq_true_eq]
          exact ⟨rfl, by simpa using hl⟩
        · obtain ⟨hh, ρ, S, Q0, Y, s, q, kv, kx⟩ := q
          refine ⟨hh, ρ, S, _, Y, s, q, fun w S1 v H1 s1 e1 r1 q1 => ⟨rcvs (C := (⟨X.K, E⟩ : Ct0).at hh) s1.sto r1 q1.1, hh, ρ, S1, _, Y, s1, q1.2, fun ws S2 vs H2 s2 e2 r2 q2 => ?_, kx.to e1⟩, kx⟩
          exact mths (C := (⟨X.K, E⟩ : Ct0).at hh) m s2 (r1.mono e2) r2 q2 (kv.to (e1.trans e2))
    · cases hx
/-! ### subscripts, displays -/
theorem snd_idx {a b : CE} (ha : Snd CX G Φ n a) (hb : Snd CX G Φ n b) : Snd CX G Φ n (.idx a b) := by
  refine sndE _ (fun N k e => match e with | .Subscript v s _ => notSlice s && (ck G N n a).e k v && (ck G N n b).e k s | _ => false) rfl (fun N => rfl) (fun N k x hx => by cases x <;> first | rfl | cases hx) fun {N E k X x} o hN hx => ?_
  cases x with
  | Subscript v s pos =>
    simp only [Bool.and_eq_true] at hx
    obtain ⟨⟨h1, h2⟩, h3⟩ := hx
    exact PE.imp (pe_ix (ix_all (by have := units_of o.room; omega)) (ha.e o hN h2) (hb.e o hN h3) (plain_of h1)) fun σ H Q q => tOf_op (fun h => ops_idx) q
  | _ => cases hx
theorem snd_slc {live : Bool} {a lo hi : CE} (ha : Snd CX G Φ n a) (hl : Snd CX G Φ n lo) (hh : Snd CX G Φ n hi) : Snd CX G Φ n (.slc live a lo hi) := by
  refine sndE _ (fun N k e => match e with | .Subscript v (.Slice l u none _) _ => (ck G N n a).e k v && (ck G N n lo).o k l && (ck G N n hi).o k u | _ => false) rfl (fun N => rfl) (fun N k x hx => ?_) fun {N E k X x} o hN hx => ?_
  · split at hx
    · rfl
    · cases hx
  · split at hx
    · simp only [Bool.and_eq_true] at hx
      refine PE.imp (pe_slice sl_all (ha.e o hN hx.1.1) (hl.o o hN hx.1.2) (hh.o o hN hx.2)) fun σ H Q q => ?_
      obtain ⟨h, ρ, S, Q0, Y, s, q, kv, kx⟩ := q
      refine ⟨h, ρ, S, _, Y, s, q, fun w S1 v H1 s1 e1 r1 q1 => ⟨h, ρ, S1, _, Y, s1, q1, fun l S2 H2 s2 e2 q2 => ⟨h, ρ, S2, _, Y, s2, q2, fun u S3 H3 s3 e3 q3 => ?_, kx.to (e1.trans e2)⟩, kx.to e1⟩, kx⟩
      exact slcs (C := (⟨X.K, E⟩ : Ct0).at h) s3 (r1.mono (e2.trans e3)) q3 (kv.to ((e1.trans e2).trans e3))
    · cases hx
theorem snd_rev {live : Bool} {a : CE} (ha : Snd CX G Φ n a) : Snd CX G Φ n (.rev live a) := by
  refine sndE _ (fun N k e => match e with | .Subscript v (.Slice none none (some (.UnaryOp .USub (.Constant (.int 1) _ _) _)) _) _ => (ck G N n a).e k v | _ => false) rfl (fun N => rfl) (fun N k x hx => ?_) fun {N E k X x} o hN hx => ?_
  · split at hx
    · rfl
    · cases hx
  · split at hx
    · refine PE.imp (pe_revL (ha.e o hN hx)) fun σ H Q q => ?_
      obtain ⟨h, ρ, S, Q0, Y, s, q, kv, kx⟩ := q
      refine ⟨h, ρ, S, _, Y, s, q, fun w S1 v H1 s1 e1 r1 q1 => ?_, kx⟩
      obtain ⟨ws, hw, q1⟩ := q1
      obtain ⟨a, vs, rfl, ha, ra⟩ := rdL_sq s1.sto r1 hw
      exact ⟨a, vs, rfl, ha.sq, (kv.to e1).newLst s1 ra.reverse q1⟩
    · cases hx
theorem snd_tup {as : CE} (ha : Snd CX G Φ n as) : Snd CX G Φ n (.tup as) := by
  refine sndE _ (fun N k e => match e with | .Tuple es _ _ => (ck G N n as).es k es | _ => false) rfl (fun N => rfl) (fun N k x hx => by cases x <;> first | rfl | cases hx) fun {N E k X x} o hN hx => ?_
  cases x with
  | Tuple es j pos =>
    refine PE.imp (pe_tup (ha.es o hN hx)) fun σ H Q q => ?_
    obtain ⟨h, ρ, S, Q0, Y, s, q, kv, kx⟩ := q
    refine ⟨h, ρ, S, _, Y, s, q, fun ws S1 vs H1 s1 e1 r1 q1 => ?_, kx⟩
    exact ⟨by rw [← r1.length]; exact q1.1, (kv.to e1).newTup s1 r1 q1.2⟩
  | _ => cases hx
theorem snd_lst {live : Bool} {as : CE} (ha : Snd CX G Φ n as) : Snd CX G Φ n (.lst live as) := by
  refine sndE _ (fun N k e => match e with | .List es _ => (ck G N n as).es k es | _ => false) rfl (fun N => rfl) (fun N k x hx => by cases x <;> first | rfl | cases hx) fun {N E k X x} o hN hx => ?_
  cases x with
  | List es pos =>
    refine PE.imp (pe_lst (ha.es o hN hx)) fun σ H Q q => ?_
    obtain ⟨h, ρ, S, Q0, Y, s, q, kv, kx⟩ := q
    refine ⟨h, ρ, S, _, Y, s, q, fun ws S1 vs H1 s1 e1 r1 q1 => ?_, kx⟩
    exact ⟨by rw [← r1.length]; exact q1.1, (kv.to e1).newLst s1 r1 q1.2⟩
  | _ => cases hx
end
end MP

set_option Elab.async false
set_option linter.all false
set_option maxRecDepth 100000
set_option maxHeartbeats 4000000
/-! MP10: expressions, the rest: lists of them, displays, targets, what is walked, comprehensions. -/
namespace MP
open PySem PySem.Spec PyProof.Rows L2

section
variable {CX : CXT} {G : Gv} {Φ : Nat → Spec} {n : Nat}
theorem snd_ife {t a b : CE} (ht : Snd CX G Φ n t) (ha : Snd CX G Φ n a) (hb : Snd CX G Φ n b) : Snd CX G Φ n (.ife t a b) := by
  refine ⟨fun {N E k X x} o hN hx => ?_, fun {N E k X x} x' hN hx => ?_, fun {N E k X x} x' hN hx => ?_, fun {N E k X x p} x' hN hx => ?_, fun {N E k X x p} x' hN hx => ?_, fun {N E k X x p} x' hN hx => ?_, fun {N E k X x p} x' hN hx => ?_,
    fun {N k x} hx => ?_, fun {N k x} hx => ?_, fun {N E k X x} x' hN hx => ?_, fun {N E k X x} x' hN hx => ?_, fun {N E k X x} x' hN hx => ?_, fun {N E k X x} x' hN hx => ?_, fun {N E k X t x} x' hN hx => ?_⟩
  · cases x with
    | IfExp c y z pos =>
      have hx' : ((ck G N n t).e k c && (ck G N n a).e k y && (ck G N n b).e k z) = true := hx
      simp only [Bool.and_eq_true] at hx'
      refine PE.imp (pe_ifExp (ht.t o hN hx'.1.1) (ha.e o hN hx'.1.2) (hb.e o hN hx'.2)) fun σ H Q q => ?_
      obtain ⟨h, ρ, S, Q0, Y, s, q, kv, kx⟩ := q
      refine ⟨h, ρ, S, _, Y, s, q, fun r S1 H1 s1 e1 q1 => ?_, kx⟩
      cases r with
      | true =>
        rw [if_pos rfl] at q1
        exact iteT ⟨h, ρ, S1, _, Y, s1, q1, kv.to e1, kx.to e1⟩
      | false =>
        rw [if_neg Bool.false_ne_true] at q1
        exact iteF ⟨h, ρ, S1, _, Y, s1, q1, kv.to e1, kx.to e1⟩
    | _ => cases hx
  · refine ⟨fun pins s σ H Q I q => ?_⟩
    obtain ⟨h, ρ, S, Q0, Y, s, q, _⟩ := q
    exact q.elim
  all_goals cases hx
/-! ### lists of expressions -/
theorem snd_nil : Snd CX G Φ n .nil := by
  have nl : ∀ {xs : List Expr}, xs.isEmpty = true → xs = [] := fun {xs} h => by cases xs <;> first | rfl | cases h
  refine ⟨fun {N E k X x} o hN hx => ?_, fun {N E k X x} x' hN hx => ?_, fun {N E k X x} o hN hx => ?_, fun {N E k X x p} x' hN hx ne => absurd (nl hx) ne, fun {N E k X x p} x' hN hx ne => absurd (nl hx) ne, fun {N E k X x p} x' hN hx ne => absurd (nl hx) ne,
    fun {N E k X x p} x' hN hx ne => absurd (nl hx) ne,
    fun {N k x} hx => ?_, fun {N k x} hx => ?_, fun {N E k X x} x' hN hx => ?_, fun {N E k X x} x' hN hx => ?_, fun {N E k X x} x' hN hx => ?_, fun {N E k X x} x' hN hx => ?_, fun {N E k X t x} x' hN hx => ?_⟩
  · cases hx
  · cases hx
  · obtain rfl := nl hx
    refine PA.imp pa_nil fun σ H Q q => ?_
    obtain ⟨h, ρ, S, Q0, Y, s, q, kv, kx⟩ := q
    exact kv [] S [] H s (Same.refl _) .nil q
  · obtain rfl := nl hx
    rfl
  · obtain rfl := nl hx
    exact ⟨fun h => (by cases h), fun h => absurd rfl h⟩
  · cases x with
    | none =>
      refine PO.imp po_none fun σ H Q q => ?_
      obtain ⟨h, ρ, S, Q0, Y, s, q, kv, kx⟩ := q
      exact kv none S H s (Same.refl _) q
    | some x => cases hx
  · obtain rfl := nl hx
    refine ⟨fun pins s σ H Q I q => pts_nil.run pins s σ H Q I ?_⟩
    obtain ⟨h, ρ, S, Q0, Y, s, q, kv, kx⟩ := q
    exact kv true S H s (Same.refl _) q
  · cases hx
  · obtain rfl := nl hx
    refine ⟨PGs.imp pgs_nil fun vs σ H Q q => ?_, rfl, rfl⟩
    obtain ⟨h, ws, ρ, S, Q0, s, r, ⟨rfl, q⟩, kv⟩ := q
    cases r
    exact ⟨rfl, kv ρ S σ H s (Same.refl _) Al.refl q⟩
  · cases hx
theorem snd_cons {a as : CE} (ha : Snd CX G Φ n a) (has : Snd CX G Φ n as) : Snd CX G Φ n (.cons a as) := by
  have parts : ∀ {N : List Str} {k : Sk} {xs : List Expr}, (ck G N n (.cons a as)).es k xs = true → ∃ x r, xs = x :: r ∧ notStar x = true ∧ (ck G N n a).e k x = true ∧ (ck G N n as).es k r = true := fun {N k xs} h => by
    cases xs with
    | nil => cases h
    | cons x r =>
      have h' : (notStar x && (ck G N n a).e k x && (ck G N n as).es k r) = true := h
      simp only [Bool.and_eq_true] at h'
      exact ⟨x, r, rfl, h'.1.1, h'.1.2, h'.2⟩
  refine ⟨fun {N E k X x} o hN hx => ?_, fun {N E k X x} x' hN hx => ?_, fun {N E k X x} o hN hx => ?_, fun {N E k X x p} o hN hx ne => ?_, fun {N E k X x p} o hN hx ne => ?_, fun {N E k X x p} o hN hx ne => ?_, fun {N E k X x p} o hN hx ne => ?_,
    fun {N k x} hx => ?_, fun {N k x} hx => ?_, fun {N E k X x} x' hN hx => ?_, fun {N E k X x} o hN hx => ?_, fun {N E k X x} x' hN hx => ?_, fun {N E k X x} o hN hx => ?_, fun {N E k X t x} x' hN hx => ?_⟩
  · cases hx
  · cases hx
  · obtain ⟨x, r, rfl, h1, h2, h3⟩ := parts hx
    refine PA.imp (pa_cons (ha.e o hN h2) (has.es o hN h3) (star_of h1)) fun σ H Q q => ?_
    obtain ⟨h, ρ, S, Q0, Y, s, q, kv, kx⟩ := q
    refine ⟨h, ρ, S, _, Y, s, q, fun w S1 v H1 s1 e1 r1 q1 => ⟨h, ρ, S1, _, Y, s1, q1, fun ws S2 vs H2 s2 e2 r2 q2 => ?_, kx.to e1⟩, kx⟩
    exact kv _ S2 _ H2 s2 (e1.trans e2) (.cons (r1.mono e2) r2) q2
  · obtain ⟨x, r, rfl, h1, h2, h3⟩ := parts hx
    have hm := has.more h3
    cases r with
    | nil =>
      have hf : (wp Φ as).more = false := by
        cases e : (wp Φ as).more with
        | false => rfl
        | true => exact absurd rfl (hm.mp e)
      refine PE.imp (pe_one (ha.e o hN h2)) fun σ H Q q => ?_
      obtain ⟨h, ρ, S, Q0, Y, s, q, kv, kx⟩ := q
      have q' : (if (wp Φ as).more = true then _ else (wp Φ a).e ρ S Q0 Y) := q
      rw [hf, if_neg Bool.false_ne_true] at q'
      exact ⟨h, ρ, S, Q0, Y, s, q', kv, kx⟩
    | cons y r =>
      have ht : (wp Φ as).more = true := hm.mpr (by simp)
      refine PE.imp (pe_andT (ha.e o hN h2) (has.an o hN h3 (by simp))) fun σ H Q q => ?_
      obtain ⟨h, ρ, S, Q0, Y, s, q, kv, kx⟩ := q
      have q' : (if (wp Φ as).more = true then (wp Φ a).e ρ S (fun x S1 => ∃ b, truW S1 x = some b ∧ if b = true then (wp Φ as).an ρ S1 Q0 Y else Q0 x S1) Y else _) := q
      rw [ht, if_pos rfl] at q'
      refine ⟨h, ρ, S, _, Y, s, q', fun w S1 v H1 s1 e1 r1 q1 => ?_, kx⟩
      obtain ⟨b, hb, q1⟩ := q1
      refine ⟨b, truW_v s1.sto r1 hb, ?_⟩
      cases b with
      | true =>
        rw [if_pos rfl] at q1
        exact iteT ⟨h, ρ, S1, _, Y, s1, q1, kv.to e1, kx.to e1⟩
      | false =>
        rw [if_neg Bool.false_ne_true] at q1
        exact iteF ((kv.to e1).give s1 r1 q1)
  · obtain ⟨x, r, rfl, h1, h2, h3⟩ := parts hx
    have hm := has.more h3
    cases r with
    | nil =>
      have hf : (wp Φ as).more = false := by
        cases e : (wp Φ as).more with
        | false => rfl
        | true => exact absurd rfl (hm.mp e)
      refine PE.imp (pe_one (ha.e o hN h2)) fun σ H Q q => ?_
      obtain ⟨h, ρ, S, Q0, Y, s, q, kv, kx⟩ := q
      have q' : (if (wp Φ as).more = true then _ else (wp Φ a).e ρ S Q0 Y) := q
      rw [hf, if_neg Bool.false_ne_true] at q'
      exact ⟨h, ρ, S, Q0, Y, s, q', kv, kx⟩
    | cons y r =>
      have ht : (wp Φ as).more = true := hm.mpr (by simp)
      refine PE.imp (pe_orT (ha.e o hN h2) (has.or o hN h3 (by simp))) fun σ H Q q => ?_
      obtain ⟨h, ρ, S, Q0, Y, s, q, kv, kx⟩ := q
      have q' : (if (wp Φ as).more = true then (wp Φ a).e ρ S (fun x S1 => ∃ b, truW S1 x = some b ∧ if b = true then Q0 x S1 else (wp Φ as).or ρ S1 Q0 Y) Y else _) := q
      rw [ht, if_pos rfl] at q'
      refine ⟨h, ρ, S, _, Y, s, q', fun w S1 v H1 s1 e1 r1 q1 => ?_, kx⟩
      obtain ⟨b, hb, q1⟩ := q1
      refine ⟨b, truW_v s1.sto r1 hb, ?_⟩
      cases b with
      | true =>
        rw [if_pos rfl] at q1
        exact iteT ((kv.to e1).give s1 r1 q1)
      | false =>
        rw [if_neg Bool.false_ne_true] at q1
        exact iteF ⟨h, ρ, S1, _, Y, s1, q1, kv.to e1, kx.to e1⟩
  · obtain ⟨x, r, rfl, h1, h2, h3⟩ := parts hx
    have hm := has.more h3
    cases r with
    | nil =>
      have hf : (wp Φ as).more = false := by
        cases e : (wp Φ as).more with
        | false => rfl
        | true => exact absurd rfl (hm.mp e)
      refine PW.imp (pw_and1 (ha.t o hN h2)) fun σ H Q q => ?_
      obtain ⟨h, ρ, S, Q0, Y, s, q, kv, kx⟩ := q
      have q' : (if (wp Φ as).more = true then _ else (wp Φ a).t ρ S Q0 Y) := q
      rw [hf, if_neg Bool.false_ne_true] at q'
      exact ⟨h, ρ, S, Q0, Y, s, q', kv, kx⟩
    | cons y r =>
      have ht : (wp Φ as).more = true := hm.mpr (by simp)
      refine PW.imp (pw_and (ha.t o hN h2) (has.ant o hN h3 (by simp))) fun σ H Q q => ?_
      obtain ⟨h, ρ, S, Q0, Y, s, q, kv, kx⟩ := q
      have q' : (if (wp Φ as).more = true then (wp Φ a).t ρ S (fun b S1 => if b = true then (wp Φ as).ant ρ S1 Q0 Y else Q0 false S1) Y else _) := q
      rw [ht, if_pos rfl] at q'
      refine ⟨h, ρ, S, _, Y, s, q', fun b S1 H1 s1 e1 q1 => ?_, kx⟩
      cases b with
      | true =>
        rw [if_pos rfl] at q1
        exact iteT ⟨h, ρ, S1, _, Y, s1, q1, fun b S2 H2 s2 e2 => kv b S2 H2 s2 (e1.trans e2), kx.to e1⟩
      | false =>
        rw [if_neg Bool.false_ne_true] at q1
        exact iteF (kv _ S1 H1 s1 e1 q1)
  · obtain ⟨x, r, rfl, h1, h2, h3⟩ := parts hx
    have hm := has.more h3
    cases r with
    | nil =>
      have hf : (wp Φ as).more = false := by
        cases e : (wp Φ as).more with
        | false => rfl
        | true => exact absurd rfl (hm.mp e)
      refine PW.imp (pw_or1 (ha.t o hN h2)) fun σ H Q q => ?_
      obtain ⟨h, ρ, S, Q0, Y, s, q, kv, kx⟩ := q
      have q' : (if (wp Φ as).more = true then _ else (wp Φ a).t ρ S Q0 Y) := q
      rw [hf, if_neg Bool.false_ne_true] at q'
      exact ⟨h, ρ, S, Q0, Y, s, q', kv, kx⟩
    | cons y r =>
      have ht : (wp Φ as).more = true := hm.mpr (by simp)
      refine PW.imp (pw_or (ha.t o hN h2) (has.ort o hN h3 (by simp))) fun σ H Q q => ?_
      obtain ⟨h, ρ, S, Q0, Y, s, q, kv, kx⟩ := q
      have q' : (if (wp Φ as).more = true then (wp Φ a).t ρ S (fun b S1 => if b = true then Q0 true S1 else (wp Φ as).ort ρ S1 Q0 Y) Y else _) := q
      rw [ht, if_pos rfl] at q'
      refine ⟨h, ρ, S, _, Y, s, q', fun b S1 H1 s1 e1 q1 => ?_, kx⟩
      cases b with
      | true =>
        rw [if_pos rfl] at q1
        exact iteT (kv _ S1 H1 s1 e1 q1)
      | false =>
        rw [if_neg Bool.false_ne_true] at q1
        exact iteF ⟨h, ρ, S1, _, Y, s1, q1, fun b S2 H2 s2 e2 => kv b S2 H2 s2 (e1.trans e2), kx.to e1⟩
  · obtain ⟨x, r, rfl, h1, h2, h3⟩ := parts hx
    rw [List.all_cons, h1, has.ns h3]
    rfl
  · obtain ⟨x, r, rfl, h1, h2, h3⟩ := parts hx
    exact ⟨fun _ => by simp, fun _ => rfl⟩
  · cases hx
  · cases x with
    | nil => cases hx
    | cons y r =>
      cases r with
      | nil =>
        refine ⟨fun pins s σ H Q I q => (pts_one (ha.t o hN hx)).run pins s σ H Q I ?_⟩
        obtain ⟨h, ρ, S, Q0, Y, s, q, kv, kx⟩ := q
        exact ⟨h, ρ, S, Q0, XN, s, q, kv, XCk.no⟩
      | cons z r => cases hx
  · cases hx
  · cases x with
    | nil => cases hx
    | cons y r =>
      have h' : (notStar y && (ck G N n a).g k y && (ck G N n as).gs k r) = true := hx
      simp only [Bool.and_eq_true] at h'
      obtain ⟨⟨h1, h2⟩, h3⟩ := h'
      obtain ⟨p1, p2, p3⟩ := has.gs o hN h3
      have hs := asg_of (es := r) (env := X.env) h1
      refine ⟨PGs.imp (pgs_cons (ha.g o hN h2) p1 (by rw [hs]; rfl)) fun vs σ H Q q => ?_, by rw [hs, List.length_cons, List.length_cons, p2], by rw [hs, List.findIdx?_cons, p3]; rfl⟩
      obtain ⟨h, ws, ρ, S, Q0, s, rr, ⟨w, ws', rfl, q⟩, kv⟩ := q
      obtain _ | ⟨r1, r2⟩ := rr
      refine ⟨_, _, rfl, h, w, ρ, S, _, s, r1, q, fun ρ1 S1 σ1 H1 s1 e1 al1 q1 => ⟨h, ws', ρ1, S1, _, s1, r2.mono e1, q1, fun ρ2 S2 σ2 H2 s2 e2 al2 q2 => ?_⟩⟩
      exact kv ρ2 S2 σ2 H2 s2 (e1.trans e2) ((al1.mono fun j hj => List.mem_append_left _ hj).trans (al2.mono fun j hj => List.mem_append_right _ hj)) q2
  · cases hx
/-! ### targets -/
theorem snd_tnm (i : Nat) : Snd CX G Φ n (.tnm i) := by
  refine sndO (fun _ _ _ => rfl) (fun _ _ _ => rfl) (fun _ _ _ => rfl) (fun _ _ _ => rfl) (fun _ _ _ => rfl) (fun {N E k X x} o hN hx => ?_) (fun {N E k X t x} o hN hx => by cases hx)
  cases x with
  | Name y p =>
    have hx' : (decide (N[i]? = some y) && stoC k y && okN y) = true := hx
    simp only [Bool.and_eq_true] at hx'
    obtain ⟨⟨h1, h2⟩, h3⟩ := hx'
    have l := loc_of o h2
    refine PG.imp (pg_name (i := i) o.nd (by rw [hN]; exact of_decide_eq_true h1) l.1 l.2) fun v σ H Q q => ?_
    obtain ⟨h, w, ρ, S, Q0, s, r, q, kv⟩ := q
    exact kv _ S _ H (s.set r) (Same.refl _) Al.set q
  | _ => cases hx
theorem cnt_gs : ∀ (c : CE) {N : List Str} {k : Sk} {xs : List Expr}, (ck G N n c).gs k xs = true → xs.length = cntC c
  | .nil, N, k, xs, h => by
    have h' : xs.isEmpty = true := h
    cases xs <;> first | rfl | cases h'
  | .cons a as, N, k, xs, h => by
    cases xs with
    | nil => cases h
    | cons y r =>
      have h' : (notStar y && (ck G N n a).g k y && (ck G N n as).gs k r) = true := h
      simp only [Bool.and_eq_true] at h'
      show r.length + 1 = cntC as + 1
      rw [cnt_gs as h'.2]
  | .var _, _, _, _, h | .cst _, _, _, _, h | .glb _ _, _, _, _, h | .bin _ _ _ _, _, _, _, h | .neg _, _, _, _, h | .nt _, _, _, _, h | .cmp _ _ _, _, _, _, h | .chain _ _ _ _ _, _, _, _, h => by cases h
  | .an _, _, _, _, h | .or _, _, _, _, h | .ife _ _ _, _, _, _, h | .call _ _, _, _, _, h | .blt _ _ _, _, _, _, h | .mth _ _ _, _, _, _, h | .idx _ _, _, _, _, h | .slc _ _ _ _, _, _, _, h => by cases h
  | .rev _ _, _, _, _, h | .tup _, _, _, _, h | .lst _ _, _, _, _, h | .dnew _, _, _, _, h | .dct _, _, _, _, h | .lc _ _ _ _ _ _, _, _, _, h | .frz _, _, _, _, h | .isi _ _, _, _, _, h | .lrg _ _, _, _, _, h | .tnm _, _, _, _, h | .ttup _, _, _, _, h | .tsub _ _, _, _, _, h => by cases h
  | .iseq _, _, _, _, h | .irng1 _, _, _, _, h | .irng2 _ _, _, _, _, h | .irng3 _ _ _, _, _, _, h | .izip _ _, _, _, _, h | .ienm _, _, _, _, h => by cases h
theorem snd_ttup {ts : CE} (ht : Snd CX G Φ n ts) : Snd CX G Φ n (.ttup ts) := by
  refine sndO (fun _ _ _ => rfl) (fun _ _ _ => rfl) (fun _ _ _ => rfl) (fun _ _ _ => rfl) (fun _ _ _ => rfl) (fun {N E k X x} o hN hx => ?_) (fun {N E k X t x} o hN hx => by cases hx)
  cases x with
  | Tuple es j p =>
    have hx' : (ck G N n ts).gs k es = true := hx
    obtain ⟨p1, p2, p3⟩ := ht.gs o hN hx'
    refine PG.imp (pg_tup (n := cntC ts) o.calm p1 (by rw [p2]; exact cnt_gs ts hx') p3) fun v σ H Q q => ?_
    obtain ⟨h, w, ρ, S, Q0, s, r, ⟨ws, rfl, hl, q⟩, kv⟩ := q
    obtain ⟨a, vs, rfl, ha, ra⟩ := tup_sq r
    exact ⟨a, vs, rfl, .of ha, by rw [← ra.length, hl], h, ws, ρ, S, Q0, s, ra, q, kv⟩
  | _ => cases hx
theorem snd_tsub {a i : CE} (ha : Snd CX G Φ n a) (hi : Snd CX G Φ n i) : Snd CX G Φ n (.tsub a i) := by
  refine sndO (fun _ _ _ => rfl) (fun _ _ _ => rfl) (fun _ _ _ => rfl) (fun _ _ _ => rfl) (fun _ _ _ => rfl) (fun {N E k X x} o hN hx => ?_) (fun {N E k X t x} o hN hx => by cases hx)
  cases x with
  | Subscript y z p =>
    have hx' : (notSlice z && (ck G N n a).e k y && (ck G N n i).e k z) = true := hx
    simp only [Bool.and_eq_true] at hx'
    obtain ⟨⟨h1, h2⟩, h3⟩ := hx'
    have hu : X.A.units + 1 < cLine := by have := units_of o.room; omega
    refine PG.imp (pg_sub (ha.e o hN h2) (hi.e o hN h3) (set_all hu) (fun v => by cases z <;> first | rfl | cases h1)) fun v σ H Q q => ?_
    obtain ⟨h, w, ρ, S, Q0, s, r, q, kv⟩ := q
    refine ⟨h, ρ, S, _, XN, s, q, fun x S1 vx H1 s1 e1 r1 q1 => ⟨h, ρ, S1, _, XN, s1, q1, fun y S2 vy H2 s2 e2 r2 q2 => ?_, XCk.no⟩, XCk.no⟩
    exact sets (C := (⟨X.K, E⟩ : Ct0).at h) s2 (r1.mono e2) r2 (r.mono (e1.trans e2)) q2 fun S3 H3 s3 e3 q3 => kv ρ S3 σ H3 s3 ((e1.trans e2).trans e3) Al.refl q3
  | _ => cases hx
/-! ### what is walked -/
theorem snd_iseq {a : CE} (ha : Snd CX G Φ n a) : Snd CX G Φ n (.iseq a) := by
  refine sndO (fun _ _ _ => rfl) (fun _ _ _ => rfl) (fun _ _ _ => rfl) (fun _ _ _ => rfl) (fun _ _ _ => rfl) (fun {N E k X x} o hN hx => by cases hx) (fun {N E k X t x} o hN hx => ?_)
  have hx' : (notSet x && (ck G N n a).e k x) = true := hx
  simp only [Bool.and_eq_true] at hx'
  exact PI.imp (pi_seq (ha.e o hN hx'.2)) fun σ H R q => imp_seq q
theorem snd_irng1 {a : CE} (ha : Snd CX G Φ n a) : Snd CX G Φ n (.irng1 a) := by
  refine sndO (fun _ _ _ => rfl) (fun _ _ _ => rfl) (fun _ _ _ => rfl) (fun _ _ _ => rfl) (fun _ _ _ => rfl) (fun {N E k X x} o hN hx => by cases hx) (fun {N E k X t x} o hN hx => ?_)
  simp only [ck] at hx
  split at hx
  · rename_i y p x1 pos
    simp only [Bool.and_eq_true] at hx
    obtain ⟨⟨⟨h1, h2⟩, h3⟩, h4⟩ := hx
    obtain rfl := of_decide_eq_true h1
    have hm := o.g.more.1
    refine PI.imp (pi_range1 (gl_of o h2) hm (pa_cons (ha.e o hN h4) pa_nil (star_of h3)) (star_of h3)) fun σ H R q => ?_
    obtain ⟨h, ρ, S, Q0, Y, s, q, kv, kx⟩ := q
    refine ⟨h, ρ, S, _, Y, s, q, fun w S1 v H1 s1 e1 r1 q1 => ?_, kx⟩
    cases w with
    | int i =>
      cases r1
      exact ⟨_, rfl, q1.1, q1.2.1, kv _ _ _ _ _ s1 e1 (fun _ _ => itok_range) q1.2.2⟩
    | _ => exact (show False from q1).elim
  · cases hx
theorem snd_irng2 {a b : CE} (ha : Snd CX G Φ n a) (hb : Snd CX G Φ n b) : Snd CX G Φ n (.irng2 a b) := by
  refine sndO (fun _ _ _ => rfl) (fun _ _ _ => rfl) (fun _ _ _ => rfl) (fun _ _ _ => rfl) (fun _ _ _ => rfl) (fun {N E k X x} o hN hx => by cases hx) (fun {N E k X t x} o hN hx => ?_)
  simp only [ck] at hx
  split at hx
  · rename_i y p x1 x2 pos
    simp only [Bool.and_eq_true] at hx
    obtain ⟨⟨⟨⟨⟨h1, h2⟩, h3⟩, h3'⟩, h4⟩, h5⟩ := hx
    obtain rfl := of_decide_eq_true h1
    have hm := o.g.more.1
    refine PI.imp (pi_range2 (gl_of o h2) hm (pa_cons (ha.e o hN h4) (pa_cons (hb.e o hN h5) pa_nil (star_of h3')) (star_of h3)) (by rw [star_of h3, star_of h3']; rfl) (star_of h3')) fun σ H R q => ?_
    obtain ⟨h, ρ, S, Q0, Y, s, q, kv, kx⟩ := q
    refine ⟨h, ρ, S, _, Y, s, q, fun w S1 v H1 s1 e1 r1 q1 => ⟨h, ρ, S1, _, Y, s1, q1, fun w2 S2 v2 H2 s2 e2 r2 q2 => ?_, kx.to e1⟩, kx⟩
    cases w with
    | int i =>
      cases w2 with
      | int j =>
        cases r1; cases r2
        exact ⟨_, _, rfl, q2.1, kv _ _ _ _ _ s2 (e1.trans e2) (fun _ _ => itok_range) q2.2⟩
      | _ => exact (show False from q2).elim
    | _ => exact (show False from q2).elim
  · cases hx
theorem snd_irng3 {a b c : CE} (ha : Snd CX G Φ n a) (hb : Snd CX G Φ n b) (hc : Snd CX G Φ n c) : Snd CX G Φ n (.irng3 a b c) := by
  refine sndO (fun _ _ _ => rfl) (fun _ _ _ => rfl) (fun _ _ _ => rfl) (fun _ _ _ => rfl) (fun _ _ _ => rfl) (fun {N E k X x} o hN hx => by cases hx) (fun {N E k X t x} o hN hx => ?_)
  simp only [ck] at hx
  split at hx
  · rename_i y p x1 x2 x3 pos
    simp only [Bool.and_eq_true] at hx
    obtain ⟨⟨⟨⟨⟨⟨⟨h1, h2⟩, h3⟩, h3'⟩, h3''⟩, h4⟩, h5⟩, h6⟩ := hx
    obtain rfl := of_decide_eq_true h1
    have hm := o.g.more.1
    refine PI.imp (pi_range3 (gl_of o h2) hm (pa_cons (ha.e o hN h4) (pa_cons (hb.e o hN h5) (pa_cons (hc.e o hN h6) pa_nil (star_of h3'')) (star_of h3')) (star_of h3)) (star_of h3) (by rw [star_of h3', star_of h3'']; rfl)) fun σ H R q => ?_
    obtain ⟨h, ρ, S, Q0, Y, s, q, kv, kx⟩ := q
    refine ⟨h, ρ, S, _, Y, s, q, fun w S1 v H1 s1 e1 r1 q1 => ⟨h, ρ, S1, _, Y, s1, q1, fun w2 S2 v2 H2 s2 e2 r2 q2 => ⟨h, ρ, S2, _, Y, s2, q2, fun w3 S3 v3 H3 s3 e3 r3 q3 => ?_, kx.to (e1.trans e2)⟩, kx.to e1⟩, kx⟩
    cases w with
    | int i =>
      cases w2 with
      | int j =>
        cases w3 with
        | int c' =>
          obtain ⟨m, hm, q3⟩ := q3
          cases r1; cases r2; cases r3
          exact ⟨_, _, _, m, rfl, hm, kv _ _ _ _ _ s3 ((e1.trans e2).trans e3) (fun _ _ => itok_rangeC) q3⟩
        | _ => exact (show False from q3).elim
      | _ => exact (show False from q3).elim
    | _ => exact (show False from q3).elim
  · cases hx
theorem snd_izip {a b : CE} (ha : Snd CX G Φ n a) (hb : Snd CX G Φ n b) : Snd CX G Φ n (.izip a b) := by
  refine sndO (fun _ _ _ => rfl) (fun _ _ _ => rfl) (fun _ _ _ => rfl) (fun _ _ _ => rfl) (fun _ _ _ => rfl) (fun {N E k X x} o hN hx => by cases hx) (fun {N E k X t x} o hN hx => ?_)
  simp only [ck] at hx
  split at hx
  · rename_i t1 t2 t3 y p x1 x2 pos
    simp only [Bool.and_eq_true] at hx
    obtain ⟨⟨⟨⟨⟨h1, h2⟩, h3⟩, h3'⟩, h4⟩, h5⟩ := hx
    obtain rfl := of_decide_eq_true h1
    have hm := o.g.more.2.1
    refine PI.imp (pi_zip (gl_of o h2) hm (pa_cons (ha.e o hN h4) (pa_cons (hb.e o hN h5) pa_nil (star_of h3')) (star_of h3)) (star_of h3) (by rw [star_of h3']; rfl)) fun σ H R q => ?_
    obtain ⟨h, ρ, S, Q0, Y, s, q, kv, kx⟩ := q
    refine ⟨h, ρ, S, _, Y, s, q, fun w S1 v H1 s1 e1 r1 q1 => ⟨h, ρ, S1, _, Y, s1, q1, fun w2 S2 v2 H2 s2 e2 r2 q2 => ?_, kx.to e1⟩, kx⟩
    obtain ⟨xs, ys, hx1, hy1, q2⟩ := q2
    obtain ⟨a1, us, rfl, b1, c1⟩ := rdL_sq s2.sto (r1.mono e2) hx1
    obtain ⟨a2, vs, rfl, b2, c2⟩ := rdL_sq s2.sto r2 hy1
    exact ⟨a1, a2, us, vs, rfl, b1.sq, b2.sq, kv _ _ _ _ _ s2 (e1.trans e2) (fun h' hh' => itok_zip ((r1.mono e2).agree hh') (r2.agree hh')) q2⟩
  · cases hx
theorem snd_ienm {a : CE} (ha : Snd CX G Φ n a) : Snd CX G Φ n (.ienm a) := by
  refine sndO (fun _ _ _ => rfl) (fun _ _ _ => rfl) (fun _ _ _ => rfl) (fun _ _ _ => rfl) (fun _ _ _ => rfl) (fun {N E k X x} o hN hx => by cases hx) (fun {N E k X t x} o hN hx => ?_)
  simp only [ck] at hx
  split at hx
  · rename_i t1 t2 t3 y p x1 pos
    simp only [Bool.and_eq_true] at hx
    obtain ⟨⟨⟨h1, h2⟩, h3⟩, h4⟩ := hx
    obtain rfl := of_decide_eq_true h1
    have hm := o.g.more.2.2.1
    refine PI.imp (pi_enum (gl_of o h2) hm (pa_cons (ha.e o hN h4) pa_nil (star_of h3)) (star_of h3)) fun σ H R q => ?_
    obtain ⟨h, ρ, S, Q0, Y, s, q, kv, kx⟩ := q
    refine ⟨h, ρ, S, _, Y, s, q, fun w S1 v H1 s1 e1 r1 q1 => ?_, kx⟩
    obtain ⟨xs, hx1, q1⟩ := q1
    obtain ⟨a1, us, rfl, b1, c1⟩ := rdL_sq s1.sto r1 hx1
    exact ⟨a1, us, rfl, b1.sq, kv _ _ _ _ _ s1 e1 (fun h' hh' => itok_enum (r1.agree hh') hx1) q1⟩
  · cases hx
/-! ### comprehensions -/
theorem ok_blk {E : L2.St → XK} {k : Sk} {X : Cx} {scope : Scope} {fp : List Addr} {s : Shared} {H : Hp} {cl : List (Str × Addr)} {C : Addr} (o : XOk CX G Φ n E k X) :
    XOk CX G Φ n (fun _ => E0) ⟨relS scope k.sc, some scope⟩ (X.blk s H scope (compEnvC scope cl C X.env) fp) where
  g := o.g
  calm := o.calm
  nd := o.nd
  room := o.room
  sc := by rw [← o.sc]; rfl
  fn := fun x h => by
    show (scope.names.lookup x == some .cell) = true
    rw [h scope rfl]
    rfl
  pass := o.g.e0 _ rfl rfl
  own := PassesOwn.never
theorem snd_lc {live : Bool} {own : List (Str × Nat)} {tg it cond elt : CE} (h1 : Snd CX G Φ n tg) (h2 : Snd CX G Φ n it) (h3 : Snd CX G Φ n cond) (h4 : Snd CX G Φ n elt) : Snd CX G Φ n (.lc live own tg it cond elt) := by
  refine sndE _ (fun N k e => match e with
    | .ListComp x [⟨t, i, ifs, 0⟩] scope _ => blkC N k.sc scope own && notSet i && (als tg).all (fun j => (own.map (·.2)).contains j) && (ck G N n it).i k t i &&
        (ck G N n tg).g ⟨relS scope k.sc, some scope⟩ t && (ck G N n cond).c ⟨relS scope k.sc, some scope⟩ ifs && (ck G N n elt).e ⟨relS scope k.sc, some scope⟩ x
    | _ => false) rfl (fun _ => rfl) (fun N k x hx => by split at hx <;> first | rfl | cases hx) fun {N E k X x} o hN hx => ?_
  split at hx
  · rename_i x t i ifs scope pos
    simp only [Bool.and_eq_true] at hx
    obtain ⟨⟨⟨⟨⟨⟨a1, a2⟩, a3⟩, a4⟩, a5⟩, a6⟩, a7⟩ := hx
    have ok : BlkOk X.N X.env.scope scope own := by rw [hN, o.sc]; exact blkOk_by a1
    refine PE.imp (pe_lc (g := tOfG ⟨X.K, fun _ => E0⟩ (als tg) (wp Φ tg).g) (tt := tOfT ⟨X.K, fun _ => E0⟩ fun ρ S Q _ => (wp Φ cond).c ρ S Q) (te := tOf ⟨X.K, fun _ => E0⟩ (wp Φ elt).e) o.calm o.nd (h2.i o hN a4) ok (fun s H C cl fp => h1.g (ok_blk o) hN a5) (fun s H C cl fp => h3.cc (ok_blk o) hN a6) (fun s H C cl fp => h4.e (ok_blk o) hN a7) (fold_of a2)) fun σ H Q q => ?_
    exact imp_lc (c := ⟨X.K, E⟩) (c' := ⟨X.K, fun _ => E0⟩) rfl (fun j hj => by simpa using List.all_eq_true.mp a3 j hj) q
  · cases hx
end
end MP

set_option Elab.async false
set_option linter.all false
set_option maxRecDepth 100000
set_option maxHeartbeats 4000000
/-! MP11: isinstance, dict displays; all expressions. -/
namespace MP
open PySem PySem.Spec PyProof.Rows L2

theorem kndTy {K : KH} {S : Sto} {H : Hp} {w : W} {v : V} {k : Knd} (s : StoOk K S H) (r : Rep K (fz S H) w v) (h : kndW S w = some k) : TyX K.K H v (.type k.nm) := by
  cases w with
  | non => cases r; cases h; exact .base .non
  | bl b => cases r; cases h; exact .base (.bl b)
  | int i => cases r; cases h; exact .base (.int i)
  | str x => cases r; cases h; exact .base (.str x)
  | tup ws =>
    cases h
    obtain ⟨a, vs, rfl, ha, ra⟩ := tup_sq r
    exact .base (.tup ha)
  | lst ws =>
    cases h
    obtain ⟨a, vs, rfl, ha, ra⟩ := rdL_sq s r rfl
    rcases ha with (ha | ⟨od, ha⟩) | ⟨its, n, h1, h2, h3⟩
    · exact .base (.lst ha)
    · exact .base (.frz ha)
    · exact .kList h1 rfl
  | ref a =>
    cases r
    cases e : S a with
    | none => simp [kndW, e] at h
    | some o =>
      simp only [kndW, e, Option.bind_some] at h
      obtain ⟨u, hu, q⟩ := s.at' a o e
      cases o with
      | lst ws => cases h; obtain ⟨vs, rfl, _⟩ := q; exact .base (.lst hu)
      | dk kvs => cases h; obtain ⟨vs, rfl, _⟩ := q; exact .base (.dK hu)
      | dt kvs => cases h; obtain ⟨vs, rfl, _⟩ := q; exact .base (.dT hu)
      | ins C fs => cases h
      | lk o =>
        cases o with
        | lst ws => cases h; obtain ⟨od, u', rfl, vs, rfl, _⟩ := q; exact .base (.frz hu)
        | dk kvs => cases h; obtain ⟨od, u', rfl, vs, rfl, _⟩ := q; exact .fDict hu
        | _ => cases h
theorem kit_knd : ∀ k t : Knd, t ≠ .non → kitB k.nm t.nm = some (subK k t) := by
  intro k t h
  cases t <;> first | exact absurd rfl h | (cases k <;> decide +kernel)
theorem knd_boot : ∀ t : Knd, t ≠ .non → bootBuiltins (t.nm : Str) = some (.type t.nm) ∧ (t.nm : Str) ≠ "__name__" ∧ ((t.nm : Str) == ("__debug__" : Str)) = false := by
  intro t h
  cases t <;> first | exact absurd rfl h | decide +kernel
section
variable {CX : CXT} {G : Gv} {Φ : Nat → Spec} {n : Nat}
theorem snd_isi {a : CE} {t : Knd} (ha : Snd CX G Φ n a) : Snd CX G Φ n (.isi a t) := by
  refine sndE _ (fun N k e => match e with
    | .Call (.Name x _) [y, .Name z _] [] _ => decide (x = ("isinstance" : Str)) && glC k.sc x && decide (z = (t.nm : Str)) && glC k.sc z && decide (t ≠ .non) && notStar y && (ck G N n a).e k y
    | _ => false) rfl (fun N => rfl) (fun N k x hx => ?_) fun {N E k X x} o hN hx => ?_
  · split at hx
    · rfl
    · cases hx
  · split at hx
    · rename_i x p y z p2 pos
      simp only [Bool.and_eq_true] at hx
      obtain ⟨⟨⟨⟨⟨⟨h1, h2⟩, h3⟩, h4⟩, h5⟩, h6⟩, h7⟩ := hx
      obtain rfl := of_decide_eq_true h1
      obtain rfl := of_decide_eq_true h3
      have h5 := of_decide_eq_true h5
      obtain ⟨m1, m2, m3, m4, m5, m6, m7, m8, m9⟩ := o.g.more
      have hmt : X.mg (t.nm : Str) = none := by
        cases t with
        | non => exact absurd rfl h5
        | bl => exact m9
        | int => exact o.g.blt .int
        | str => exact o.g.blt .str
        | lst => exact o.g.blt .list
        | tup => exact o.g.blt .tuple
        | dct => exact m7
      obtain ⟨b1, b2, b3⟩ := knd_boot t h5
      have hT : PE X (.Name (t.nm : Str) p2) (tC (.ty t.nm)) := pe_bltn (gl_of o h4) hmt b1 rfl b2 b3
      refine PE.imp (pe_callB call_isi (gl_of o h2) m4 (by decide +kernel) (pa_cons (ha.e o hN h7) (pa_cons hT pa_nil rfl) (star_of h6)) (by decide) (by decide) (star_of h6) rfl) fun σ H Q q => ?_
      obtain ⟨hh, ρ, S, Q0, Y, s, q, kv, kx⟩ := q
      refine ⟨hh, ρ, S, _, Y, s, q, fun w S1 v H1 s1 e1 r1 q1 => ?_, kx⟩
      obtain ⟨k', hk, q1⟩ := q1
      exact ⟨v, _, _, _, _, rfl, .ty _, kndTy s1.sto r1 hk, kit_ty (kit_knd k' t h5), kv _ _ _ _ s1 e1 (.bl _) q1⟩
    · cases hx
end
/-! ### dict displays -/
section
variable {K : KH} {D : Addr}
/-- a hidden thing becomes a cell -/
theorem Sim.cellO {ρ : Env} {σ : L2.St} {S : Sto} {H : Hp} {ob : Ob} {u : HO} (s : Sim (K.more D) ρ σ S H) (nD : K.h D = false) (h : H D = some u) (r : ObR (K.more D) (fz S H) H D ob u) : Sim K ρ σ (sup S D ob) H := by
  have hS := (s.sto.hid D KH.more_at).1
  have e : ∀ b, b ≠ D → fz (sup S D ob) H b = fz S H b := fun b hb => by
    unfold fz
    rw [sup_ne hb]
  refine ⟨fun i w q => ?_, s.len, ⟨fun b u q => ?_, fun a q => ?_⟩⟩
  · obtain ⟨v, h1, h2⟩ := s.var i w q
    exact ⟨v, h1, (h2.hidden KH.more_at e).unhide⟩
  · by_cases hb : b = D
    · subst hb
      rw [sup_same] at q; cases q
      exact ⟨_, h, (r.hidden KH.more_at e).unhide⟩
    · rw [sup_ne hb] at q
      obtain ⟨v, hv, z⟩ := s.sto.at' b u q
      exact ⟨v, hv, (z.hidden KH.more_at e).unhide⟩
  · obtain ⟨h1, u, h2⟩ := s.sto.hid a (by unfold KH.more; simp [q])
    by_cases z : a = D
    · subst z
      rw [nD] at q; cases q
    · exact ⟨by rw [sup_ne z]; exact h1, u, h2⟩
end
def trsOf (c : Ct0) (Φ : Nat → Spec) : CE → List (TE × TE)
  | .cons a (.cons b r) => (tOf c (wp Φ a).e, tOf c (wp Φ b).e) :: trsOf c Φ r
  | _ => []
def itm : CE → List CE
  | .cons a as => a :: itm as
  | _ => []
def evn : CE → Bool
  | .nil => true
  | .cons _ (.cons _ r) => evn r
  | _ => false
def prs : List V → List (V × V)
  | a :: b :: r => (a, b) :: prs r
  | _ => []
theorem imp_pairs {c : Ct0} {Φ : Nat → Spec} : ∀ (as : CE), evn as = true → ∀ {h : Addr → Bool} {ρ : Env} {σ : L2.St} {S : Sto} {H : Hp} {Q : List W → Sto → Prop} {X : XC} {Q' : List (V × V) → Hp → Prop}, Sim (c.at h).K ρ σ S H → (wp Φ as).es ρ S Q X →
    (∀ ws S' vs H', Sim (c.at h).K ρ σ S' H' → Same (fz S H) (fz S' H') → RepL (c.at h).K (fz S' H') ws vs → Q ws S' → Q' (prs vs) H') → XCk (c.at h).K (c.E σ) S H X → tPairs (trsOf c Φ as) σ H Q'
  | .nil, _, h, ρ, σ, S, H, Q, X, Q', s, q, k, kx => k [] S [] H s (Same.refl _) .nil q
  | .cons a (.cons b r), he, h, ρ, σ, S, H, Q, X, Q', s, q, k, kx => by
    refine ⟨h, ρ, S, _, X, s, q, fun w S1 v H1 s1 e1 r1 q1 => ⟨h, ρ, S1, _, X, s1, q1, fun w2 S2 v2 H2 s2 e2 r2 q2 => ?_, kx.to e1⟩, kx⟩
    refine imp_pairs r he s2 q2 (fun ws S3 vs H3 s3 e3 r3 q3 => ?_) (kx.to (e1.trans e2))
    exact k (w :: w2 :: ws) S3 (v :: v2 :: vs) H3 s3 ((e1.trans e2).trans e3) (.cons (r1.mono (e2.trans e3)) (.cons (r2.mono e3) r3)) q3
theorem keyKey {K : KH} {F : Hp} {w : W} {v : V} {k : Key} (h : keyW w = some k) (r : Rep K F w v) : v = kV k := by
  cases w with
  | int i => cases h; cases r; rfl
  | str x => cases h; cases r; rfl
  | _ => cases h
theorem puts_v {K : KH} {F : Hp} : ∀ {ws : List W} {vs : List V} {acc kvs : List (Key × W)} {acc' : List (Key × V)}, RepL K F ws vs → KVR K F acc acc' → putsK acc ws = some kvs →
    ∃ ps : List (Key × V), prs vs = ps.map (fun kv => (kV kv.1, kv.2)) ∧ 2 * ps.length = ws.length ∧ KVR K F kvs (mergeK acc' ps)
  | [], _, acc, kvs, acc', .nil, r, h => by
    cases h
    exact ⟨[], rfl, rfl, r⟩
  | [w], _, _, _, _, .cons _ .nil, _, h => by cases h
  | w :: w2 :: ws, _, acc, kvs, acc', .cons r1 (.cons r2 rs), r, h => by
    unfold putsK at h
    cases e : keyW w with
    | none => rw [e] at h; cases h
    | some k =>
      rw [e] at h
      obtain ⟨ps, h1, h2, h3⟩ := puts_v (acc' := putK acc' k _) rs (kvr_put r r2) h
      refine ⟨(k, _) :: ps, ?_, ?_, h3⟩
      · show (_, _) :: prs _ = _
        rw [h1, keyKey e r1]
        rfl
      · rw [List.length_cons, List.length_cons, List.length_cons]; omega
section
variable {CX : CXT} {G : Gv} {Φ : Nat → Spec} {n : Nat}
theorem altE_ks {ks : List (Option Expr)} {vs es : List Expr} (h : altE ks vs = some es) : (ks = [] ∧ vs = [] ∧ es = []) ∨ ∃ k ks' v vs' es', ks = some k :: ks' ∧ vs = v :: vs' ∧ es = k :: v :: es' ∧ altE ks' vs' = some es' := by
  cases ks with
  | nil => cases vs <;> cases h; exact .inl ⟨rfl, rfl, rfl⟩
  | cons q ks =>
    cases q with
    | none => cases vs <;> cases h
    | some q =>
      cases vs with
      | nil => cases h
      | cons v vs =>
        have h' : (altE ks vs).map (fun r => q :: v :: r) = some es := h
        cases e : altE ks vs with
        | none => rw [e] at h'; cases h'
        | some es' =>
          rw [e] at h'; cases h'
          exact .inr ⟨_, _, _, _, _, rfl, rfl, rfl, e⟩
theorem es_cons {N : List Str} {k : Sk} {as : CE} {x : Expr} {es : List Expr} (h : (ck G N n as).es k (x :: es) = true) : ∃ a r, as = .cons a r ∧ (ck G N n a).e k x = true ∧ (ck G N n r).es k es = true := by
  cases as with
  | cons a r =>
    have h' : (notStar x && (ck G N n a).e k x && (ck G N n r).es k es) = true := h
    simp only [Bool.and_eq_true] at h'
    exact ⟨a, r, rfl, h'.1.2, h'.2⟩
  | _ => cases h
theorem es_nil0 {N : List Str} {k : Sk} {as : CE} (h : (ck G N n as).es k [] = true) : as = .nil := by
  cases as <;> first | rfl | cases h
theorem pps_of {E : L2.St → XK} {k : Sk} {X : Cx} {N : List Str} {pos : Pos} (o : XOk CX G Φ n E k X) (hN : X.N = N) : ∀ (m : Nat) {as : CE} {ks : List (Option Expr)} {vs es : List Expr}, ks.length = m → (∀ a ∈ itm as, Snd CX G Φ n a) → altE ks vs = some es →
    (ck G N n as).es k es = true → PPs X pos ks vs (trsOf ⟨X.K, E⟩ Φ as) ∧ evn as = true ∧ ks.all (·.isSome) = true ∧ ks.length = vs.length
  | 0, as, ks, vs, es, hm, hs, ha, hc => by
    rcases altE_ks ha with ⟨rfl, rfl, rfl⟩ | ⟨q, ks', v, vs', es', rfl, rfl, rfl, ha⟩
    · obtain rfl := es_nil0 hc
      exact ⟨pps_nil, rfl, rfl, rfl⟩
    · cases hm
  | m + 1, as, ks, vs, es, hm, hs, ha, hc => by
    rcases altE_ks ha with ⟨rfl, rfl, rfl⟩ | ⟨q, ks', v, vs', es', rfl, rfl, rfl, ha2⟩
    · cases hm
    · obtain ⟨a, r, rfl, c1, hc2⟩ := es_cons hc
      obtain ⟨b, r, rfl, c2, hc3⟩ := es_cons hc2
      obtain ⟨p1, p2, p3, p4⟩ := pps_of (as := r) o hN m (by simpa using hm) (fun z hz => hs z (by simp [itm, hz])) ha2 hc3
      exact ⟨pps_cons ((hs a (by simp [itm])).e o hN c1) ((hs b (by simp [itm])).e o hN c2) p1, p2, by rw [List.all_cons, p3]; rfl, by rw [List.length_cons, List.length_cons, p4]⟩
theorem rep_rg {K : KH} {F : Hp} {j : Int} : RepL K F (rngW 0 j.toNat) (rgV 0 j) := by
  unfold rngW rgV
  rw [Int.sub_zero]
  generalize List.range j.toNat = l
  induction l with
  | nil => exact .nil
  | cons i l ih => exact .cons (.int _) ih
theorem snd_lrg {live : Bool} {a : CE} (ha : Snd CX G Φ n a) : Snd CX G Φ n (.lrg live a) := by
  refine sndE _ (fun N k e => match e with
    | .Call (.Name x _) [.Call (.Name y _) [z] [] _] [] _ => decide (x = ("list" : Str)) && glC k.sc x && decide (y = ("range" : Str)) && glC k.sc y && notStar z && (ck G N n a).e k z
    | _ => false) rfl (fun N => rfl) (fun N k x hx => ?_) fun {N E k X x} o hN hx => ?_
  · split at hx
    · rfl
    · cases hx
  · split at hx
    · rename_i x p y p2 z p3 pos
      simp only [Bool.and_eq_true] at hx
      obtain ⟨⟨⟨⟨⟨h1, h2⟩, h3⟩, h4⟩, h5⟩, h6⟩ := hx
      obtain rfl := of_decide_eq_true h1
      obtain rfl := of_decide_eq_true h3
      refine PE.imp (pe_listRg o.calm (gl_of o h2) (o.g.blt .list) (prg_1 (gl_of o h4) o.g.more.1 (ha.e o hN h6) (star_of h5)) rfl) fun σ H Q q => ?_
      obtain ⟨hh, ρ, S, Q0, Y, s, q, kv, kx⟩ := q
      refine ⟨hh, ρ, S, _, Y, s, q, fun w S1 v H1 s1 e1 r1 q1 => ?_, kx⟩
      obtain ⟨j, rfl, j0, j1, q1⟩ := q1
      cases r1
      exact ⟨j, rfl, RgOk.of_le (by omega) j1 (by omega) j0, (kv.to e1).newLst s1 rep_rg q1⟩
    · cases hx
theorem snd_dnew {tk : Bool} : Snd CX G Φ n (.dnew tk) := by
  refine sndE _ (fun N k e => match e with | .Dict [] [] _ => true | _ => false) rfl (fun N => rfl) (fun N k x hx => by split at hx <;> first | rfl | cases hx) fun {N E k X x} o hN hx => ?_
  split at hx
  · cases tk with
    | true =>
      refine PE.imp pe_dnewT fun σ H Q q => ?_
      obtain ⟨h, ρ, S, Q0, Y, s, q, kv, kx⟩ := q
      intro p hp
      exact kv _ _ _ _ ⟨fun i w e => let ⟨v, e1, e2⟩ := s.var i w e; ⟨v, e1, e2.mono (same_newc s.sto hp)⟩, s.len, s.sto.newc hp (show ObR _ _ _ _ (.dt []) _ from ⟨_, rfl, .nil⟩)⟩ (same_newc s.sto hp) (.ref p) (q p (s.sto.free hp))
    | false =>
      refine PE.imp pe_dnewK fun σ H Q q => ?_
      obtain ⟨h, ρ, S, Q0, Y, s, q, kv, kx⟩ := q
      intro p hp
      exact kv _ _ _ _ ⟨fun i w e => let ⟨v, e1, e2⟩ := s.var i w e; ⟨v, e1, e2.mono (same_newc s.sto hp)⟩, s.len, s.sto.newc hp (show ObR _ _ _ _ (.dk []) _ from ⟨_, rfl, .nil⟩)⟩ (same_newc s.sto hp) (.ref p) (q p (s.sto.free hp))
  · cases hx
theorem XCk.more {K : KH} {E : XK} {S : Sto} {H : Hp} {Y : XC} {p : Addr} {o : HO} (k : StoOk K S H) (hp : H p = none) (kx : XCk K E S H Y) : XCk (K.more p) E S (upd H p o) Y := fun x S' H' d k' e r h => by
  refine kx x S' H' d k'.unhide ((same_new k hp).trans e) ?_ h
  unfold XRep at r ⊢
  split at r
  · exact r
  · obtain ⟨dd, v, a, b, c⟩ := r
    exact ⟨dd, v, a, b, c.unhide⟩
theorem snd_dct {as : CE} (hs : ∀ a ∈ itm as, Snd CX G Φ n a) : Snd CX G Φ n (.dct as) := by
  refine sndE _ (fun N k e => match e with
    | .Dict ks vs _ => (match altE ks vs with | some es => (ck G N n as).es k es && decide (ks.length ≤ 15) && !ks.isEmpty | none => false)
    | _ => false) rfl (fun N => rfl) (fun N k x hx => by cases x <;> first | rfl | cases hx) fun {N E k X x} o hN hx => ?_
  cases x with
  | Dict ks vs pos =>
    simp only at hx
    split at hx
    · rename_i es he
      simp only [Bool.and_eq_true, decide_eq_true_eq] at hx
      obtain ⟨⟨h1, h2⟩, h3⟩ := hx
      obtain ⟨p1, p2, p3, p4⟩ := pps_of (pos := pos) o hN _ rfl hs he h1
      refine PE.imp (pe_disp p1 p3 p4 (fun z => by rw [z] at h3; cases h3) h2) fun σ H Q q => ?_
      obtain ⟨h, ρ, S, Q0, Y, s, q, kv, kx⟩ := q
      intro p hp
      have hF : fz S H p = none := by
        unfold fz
        split <;> first | rfl | exact hp
      have nD := s.sto.nohid hp
      refine imp_pairs (h := (((⟨X.K, E⟩ : Ct0).at h).K.more p).h) as p2 (s.hide hp) q (fun ws S1 vs1 H1 s1 e1 r1 q1 => ?_) (kx.more s.sto hp)
      have hS : S p = none := s.sto.free hp
      have dAt : H1 p = some (.dK []) := (fz_some (e1 p _ (by rw [fz_none hS]; exact upd_same))).2
      refine ⟨dAt, ?_⟩
      obtain ⟨kvs, hk, hl, q1⟩ := q1
      obtain ⟨ps, b1, b2, b3⟩ := puts_v r1 .nil hk
      refine ⟨ps, b1, by omega, ?_⟩
      have e01 : Same (fz S H) (fz S1 H1) := (same_new s.sto hp).trans e1
      have s1' : Sim (((⟨X.K, E⟩ : Ct0).at h).K.more p) ρ σ S1 (upd H1 p (.dK (mergeK [] ps))) := s1.hidden KH.more_at
      refine kv _ _ _ _ (s1'.cellO nD upd_same (show ObR _ _ _ _ (.dk kvs) _ from ⟨_, rfl, b3.hidden KH.more_at fz_hid⟩)) (fun b u z => ?_) (.ref p) (q1 p (s1.sto.hid p KH.more_at).1)
      have hb := ne_of_none z hF
      have := e01 b u z
      unfold fz at this ⊢
      rw [sup_ne hb, upd_ne hb]
      exact this
    · cases hx
  | _ => cases hx
theorem snd_all2 : ∀ c : CE, Snd CX G Φ n c ∧ ∀ a ∈ itm c, Snd CX G Φ n a := by
  intro c
  induction c with
  | cons a as h1 h2 => exact ⟨snd_cons h1.1 h2.1, fun z hz => by
      rcases List.mem_cons.mp hz with rfl | hz
      · exact h1.1
      · exact h2.2 z hz⟩
  | nil => exact ⟨snd_nil, fun z hz => nomatch hz⟩
  | var i => exact ⟨snd_var i, fun z hz => nomatch hz⟩
  | cst c => exact ⟨snd_cst c, fun z hz => nomatch hz⟩
  | glb x c => exact ⟨snd_glb x c, fun z hz => nomatch hz⟩
  | bin live op a b h1 h2 => exact ⟨snd_bin h1.1 h2.1, fun z hz => nomatch hz⟩
  | neg a h1 => exact ⟨snd_neg h1.1, fun z hz => nomatch hz⟩
  | nt a h1 => exact ⟨snd_nt h1.1, fun z hz => nomatch hz⟩
  | cmp op a b h1 h2 => exact ⟨snd_cmp h1.1 h2.1, fun z hz => nomatch hz⟩
  | chain o1 o2 a b c h1 h2 h3 => exact ⟨snd_chain h1.1 h2.1 h3.1, fun z hz => nomatch hz⟩
  | an as h1 => exact ⟨snd_an h1.1, fun z hz => nomatch hz⟩
  | or as h1 => exact ⟨snd_or h1.1, fun z hz => nomatch hz⟩
  | ife t a b h1 h2 h3 => exact ⟨snd_ife h1.1 h2.1 h3.1, fun z hz => nomatch hz⟩
  | call f as h1 => exact ⟨snd_call h1.1, fun z hz => nomatch hz⟩
  | blt b live as h1 => exact ⟨snd_blt h1.1, fun z hz => nomatch hz⟩
  | mth m o as h1 h2 => exact ⟨snd_mth h1.1 h2.1, fun z hz => nomatch hz⟩
  | idx a b h1 h2 => exact ⟨snd_idx h1.1 h2.1, fun z hz => nomatch hz⟩
  | slc live a lo hi h1 h2 h3 => exact ⟨snd_slc h1.1 h2.1 h3.1, fun z hz => nomatch hz⟩
  | rev live a h1 => exact ⟨snd_rev h1.1, fun z hz => nomatch hz⟩
  | tup as h1 => exact ⟨snd_tup h1.1, fun z hz => nomatch hz⟩
  | lst live as h1 => exact ⟨snd_lst h1.1, fun z hz => nomatch hz⟩
  | dnew tk => exact ⟨snd_dnew, fun z hz => nomatch hz⟩
  | dct as h1 => exact ⟨snd_dct h1.2, fun z hz => nomatch hz⟩
  | lc live own tg it cond elt h1 h2 h3 h4 => exact ⟨snd_lc h1.1 h2.1 h3.1 h4.1, fun z hz => nomatch hz⟩
  | frz a h1 => exact ⟨snd_frz h1.1, fun z hz => nomatch hz⟩
  | lrg live a h1 => exact ⟨snd_lrg h1.1, fun z hz => nomatch hz⟩
  | isi a t h1 => exact ⟨snd_isi h1.1, fun z hz => nomatch hz⟩
  | tnm i => exact ⟨snd_tnm i, fun z hz => nomatch hz⟩
  | ttup ts h1 => exact ⟨snd_ttup h1.1, fun z hz => nomatch hz⟩
  | tsub o i h1 h2 => exact ⟨snd_tsub h1.1 h2.1, fun z hz => nomatch hz⟩
  | iseq a h1 => exact ⟨snd_iseq h1.1, fun z hz => nomatch hz⟩
  | irng1 a h1 => exact ⟨snd_irng1 h1.1, fun z hz => nomatch hz⟩
  | irng2 a b h1 h2 => exact ⟨snd_irng2 h1.1 h2.1, fun z hz => nomatch hz⟩
  | irng3 a b c h1 h2 h3 => exact ⟨snd_irng3 h1.1 h2.1 h3.1, fun z hz => nomatch hz⟩
  | izip a b h1 h2 => exact ⟨snd_izip h1.1 h2.1, fun z hz => nomatch hz⟩
  | ienm a h1 => exact ⟨snd_ienm h1.1, fun z hz => nomatch hz⟩
theorem snd_all (c : CE) : Snd CX G Φ n c := (snd_all2 c).1
end
end MP

set_option Elab.async false
set_option linter.all false
set_option maxRecDepth 100000
set_option maxHeartbeats 4000000
/-! MP12: statements: the check, and what it is worth. -/
namespace MP
open PySem PySem.Spec PyProof.Rows L2

/-! ### what an assignment's form means -/
def kFn (sc : Scope) : Bool := match sc.kind with | .function => true | _ => false
theorem kFn_of {sc : Scope} (h : kFn sc = true) : sc.kind = .function := by
  unfold kFn at h
  split at h
  · assumption
  · cases h
def swB (sc : Scope) (value tg : Expr) : Bool :=
  match value, tg with
  | .ListComp _ _ s p, .Name t q => (sc.names.lookup t == some .local && q.line == p.line && !(s.names.any fun (n, k) => n == t && (k == .local || k == .cell)))
  | _, _ => false
def notSD : Expr → Bool | .SetComp .. => false | .DictComp .. => false | _ => true
theorem sw_eq {sc : Scope} {env : PySem.Env} {value tg : Expr} {l : Nat} (hs : env.scope = sc) (hk : kFn sc = true) (h : notSD value = true) : swapsWith value (some tg) l env = pure (swB sc value tg) := by
  have hb : env.blockKind = .function := by
    unfold Env.blockKind
    rw [hs, kFn_of hk]
    rfl
  cases value with
  | ListComp elt gs s p =>
    cases tg with
    | Name t q =>
      unfold swapsWith swB
      simp only [hb]
      subst hs
      rfl
    | _ => rfl
  | SetComp => cases h
  | DictComp => cases h
  | _ => rfl
def notTupE : Expr → Bool | .Tuple .. => false | _ => true
def notTL : Expr → Bool | .Tuple .. => false | .List .. => false | _ => true
theorem sws_none {tg e : Expr} {env : PySem.Env} (h : (notTupE e || notTL tg) = true) : swappedStores [tg] e env = pure none := by
  cases e <;> first | (cases tg <;> first | rfl | cases h) | (cases tg <;> rfl)
def swsN (sc : Scope) (ts : List Expr) : List Str := ts.filterMap fun
  | .Name id pos => if (sc.names.lookup id == some .local && pos.line == (ts.head?.map (·.pos.line)).getD 0) = true then some id else none
  | _ => none
def swsB (sc : Scope) (ts vs : List Expr) : Bool :=
  (ts.length == 2 || ts.length == 3) && (vs.length == ts.length) && vs.all notStar && ((swsN sc ts).length == ts.length) && ((swsN sc ts).eraseDups.length == (swsN sc ts).length) && !vs.all (foldedForSure 8) && !vs.all (constantsAlone 8)
theorem star_any : ∀ {vs : List Expr}, vs.all notStar = true → (vs.any fun | .Starred .. => true | _ => false) = false
  | [], _ => rfl
  | x :: xs, h => by
    rw [List.all_cons, Bool.and_eq_true] at h
    rw [List.any_cons, star_any h.2]
    cases x <;> first | rfl | cases h.1
def swsF (c1 star : Bool) (names : List Str) (ts vs : List Expr) : Sem (Option (List Str)) := do
  if c1 then return none
  if star then return none
  if names.length != ts.length || names.eraseDups.length != names.length then return none
  if vs.all (foldedForSure 8) then return none
  if vs.all (constantsAlone 8) then unsupported "assign.tuple-of-constant-expressions:order-of-the-stores"
  return some names
theorem sws_eq {sc : Scope} {env : PySem.Env} {ts vs : List Expr} {k k2 : Nat} {p p2 : Pos} (hs : env.scope = sc) (hk : kFn sc = true) (h : swsB sc ts vs = true) : swappedStores [.Tuple ts k p] (.Tuple vs k2 p2) env = pure (some (swsN sc ts)) := by
  have hb : (env.blockKind != .function) = false := by
    unfold Env.blockKind
    rw [hs, kFn_of hk]
    rfl
  subst hs
  unfold swsB at h
  simp only [Bool.and_eq_true, Bool.not_eq_true'] at h
  obtain ⟨⟨⟨⟨⟨⟨h1, h2⟩, h3⟩, h4⟩, h5⟩, h6⟩, h7⟩ := h
  have e : swappedStores [.Tuple ts k p] (.Tuple vs k2 p2) env = swsF (!(ts.length == 2 || ts.length == 3) || vs.length != ts.length || env.blockKind != .function) (vs.any fun | .Starred .. => true | _ => false) (swsN env.scope ts) ts vs := rfl
  have e2 : (vs.length != ts.length) = false := by simpa using h2
  have e4 : ((swsN env.scope ts).length != ts.length) = false := by simpa using h4
  have e5 : ((swsN env.scope ts).eraseDups.length != (swsN env.scope ts).length) = false := by simpa using h5
  rw [e, hb, h1, e2, star_any h3]
  unfold swsF
  simp only [e4, e5, h6, h7]
  rfl
structure CKS where
  s : Sk → Stmt → Bool
  b : Sk → List Stmt → Bool
def ck1 (f : Sk → Stmt → Bool) : CKS := { s := f, b := fun k sts => match sts with | [st] => f k st | _ => false }
/-- a list comprehension put under a name -/
def ckL (G : Gv) (N : List Str) (n : Nat) (t e : CE) (k : Sk) (tg v : Expr) : Bool :=
  match t, e, tg, v with
  | .tnm i, .lc _ own tg' it cond elt, .Name y _, .ListComp x [⟨t', i', ifs, 0⟩] scope _ =>
    decide (N[i]? = some y) && decide (k.sc.names.lookup y = some .local) && blkC N k.sc scope own && notSet i' && (als tg').all (fun j => (own.map (·.2)).contains j) && (ck G N n it).i k t' i' &&
        (ck G N n tg').g ⟨relS scope k.sc, some scope⟩ t' && (ck G N n cond).c ⟨relS scope k.sc, some scope⟩ ifs && (ck G N n elt).e ⟨relS scope k.sc, some scope⟩ x
  | _, _, _, _ => false
def isGh : CS → Bool
  | .gfrz _ => true
  | .gdrop => true
  | _ => false
def nmE : Expr → Option Str
  | .Name x _ => some x
  | _ => none
def cks (G : Gv) (N : List Str) (n : Nat) : CS → CKS
  | .nil => { s := fun _ _ => false, b := fun _ sts => sts.isEmpty }
  | .seq s r => { s := fun _ _ => false, b := fun k sts => if isGh s = true then (cks G N n r).b k sts else match sts with | st :: rest => (cks G N n s).s k st && (cks G N n r).b k rest | [] => false }
  | .asg t e => ck1 fun k st => match st with
    | .Assign [tg] v _ => kFn k.sc && notStar tg && notSD v && (notTupE v || notTL tg) && (if swB k.sc v tg = true then ckL G N n t e k tg v else (ck G N n e).e k v && (ck G N n t).g k tg)
    | _ => false
  | .par is es => ck1 fun k st => match st, is with
    | .Assign [.Tuple [.Name x px, .Name y py] _ _] (.Tuple [a, b] _ _) _, [i, j] => kFn k.sc && swsB k.sc [.Name x px, .Name y py] [a, b] && decide (swsN k.sc [.Name x px, .Name y py] = [x, y]) && decide (N[i]? = some x) && decide (N[j]? = some y) && decide (i ≠ j) &&
        decide (k.sc.names.lookup x = some .local) && decide (k.sc.names.lookup y = some .local) && (ck G N n es).es k [a, b]
    | .Assign [.Tuple [.Name x px, .Name y py, .Name z pz] _ _] (.Tuple [a, b, c] _ _) _, [i, j, l] => kFn k.sc && swsB k.sc [.Name x px, .Name y py, .Name z pz] [a, b, c] && decide (swsN k.sc [.Name x px, .Name y py, .Name z pz] = [x, y, z]) &&
        decide (N[i]? = some x) && decide (N[j]? = some y) && decide (N[l]? = some z) && decide (i ≠ j) && decide (i ≠ l) && decide (j ≠ l) &&
        decide (k.sc.names.lookup x = some .local) && decide (k.sc.names.lookup y = some .local) && decide (k.sc.names.lookup z = some .local) && (ck G N n es).es k [a, b, c]
    | _, _ => false
  | .aug i sb e => ck1 fun k st => match st with
    | .AugAssign (.Name x _) op v _ => decide (op = if sb = true then Operator.Sub else Operator.Add) && decide (N[i]? = some x) && stoC k x && (ck G N n e).e k v
    | _ => false
  | .augS o i sb e => ck1 fun k st => match st with
    | .AugAssign (.Subscript x y _) op v _ => decide (op = if sb = true then Operator.Sub else Operator.Add) && notSlice y && (ck G N n o).e k x && (ck G N n i).e k y && (ck G N n e).e k v
    | _ => false
  | .expr e => ck1 fun k st => match st with | .Expr v _ => notSD v && (match v with | .ListComp .. => false | _ => true) && (ck G N n e).e k v | _ => false
  | .ret e => ck1 fun k st => match st with | .Return (some v) _ => (ck G N n e).e k v | _ => false
  | .retN => ck1 fun _ st => match st with | .Return none _ => true | _ => false
  | .iff t a b => ck1 fun k st => match st with | .If c x y _ => (ck G N n t).e k c && (cks G N n a).b k x && (cks G N n b).b k y | _ => false
  | .fr t it b => ck1 fun k st => match st with | .For tg v body [] _ => notSet v && (ck G N n it).i k tg v && (ck G N n t).g k tg && (cks G N n b).b k body | _ => false
  | .whl t b => ck1 fun k st => match st with | .While c body [] _ => (ck G N n t).e k c && (cks G N n b).b k body | _ => false
  | .cont => ck1 fun _ st => match st with | .Continue _ => true | _ => false
  | .brk => ck1 fun _ st => match st with | .Break _ => true | _ => false
  | .pass => ck1 fun _ st => match st with | .Pass _ => true | _ => false
  | .gfrz _ => { s := fun _ _ => false, b := fun _ sts => sts.isEmpty }
  | .gdrop => { s := fun _ _ => false, b := fun _ sts => sts.isEmpty }
  | .never => { s := fun _ _ => true, b := fun _ _ => true }

section
variable {CX : CXT} {G : Gv} {Φ : Nat → Spec} {n : Nat} {N : List Str} {E : L2.St → XK} {k : Sk} {X : Cx}
structure SndS (CX : CXT) (G : Gv) (Φ : Nat → Spec) (n : Nat) (N : List Str) (c : CS) : Prop where
  s : ∀ {E : L2.St → XK} {k : Sk} {X : Cx} {st : Stmt}, XOk CX G Φ n E k X → X.N = N → (cks G N n c).s k st = true → PS X st (tOfS ⟨X.K, E⟩ (wps Φ c))
  b : ∀ {E : L2.St → XK} {k : Sk} {X : Cx} {sts : List Stmt}, XOk CX G Φ n E k X → X.N = N → (cks G N n c).b k sts = true → PSs X sts (tOfS ⟨X.K, E⟩ (wps Φ c))
theorem snds1 {c : CS} (f : Sk → Stmt → Bool) (hc : cks G N n c = ck1 f) (h : ∀ {E : L2.St → XK} {k : Sk} {X : Cx} {st : Stmt}, XOk CX G Φ n E k X → X.N = N → f k st = true → PS X st (tOfS ⟨X.K, E⟩ (wps Φ c))) : SndS CX G Φ n N c := by
  refine ⟨fun {E k X st} o hN hx => ?_, fun {E k X sts} o hN hx => ?_⟩
  · rw [hc] at hx
    exact h o hN hx
  · rw [hc] at hx
    cases sts with
    | nil => cases hx
    | cons st r =>
      cases r with
      | nil => exact pss_one (h o hN hx)
      | cons _ _ => cases hx
/-- what follows an expression within a statement -/
theorem kvS {c : Ct0} {h : Addr → Bool} {ρ : Env} {σ : L2.St} {S : Sto} {H : Hp} {D' : WEnds} {D : Ends} (e : EndsOk (c.at h) ρ σ S H D' D) : XCk (c.at h).K (c.E σ) S H D'.xc := e.xc σ
theorem EndsOk.seq {C : Ctx} {ρ : Env} {σ : L2.St} {S : Sto} {H : Hp} {D' : WEnds} {D : Ends} {r : WS} {u : TS} (k : EndsOk C ρ σ S H D' D)
    (hr : ∀ ρ1 S1 σ1 H1, Sim C.K ρ1 σ1 S1 H1 → Same (fz S H) (fz S1 H1) → r ρ1 S1 D' → u D σ1 H1) : EndsOk C ρ σ S H { D' with nx := fun ρ1 S1 => r ρ1 S1 D' } { D with nx := u D } :=
  ⟨hr, k.rt, k.bk, k.ct, k.xc⟩
theorem snds_nil : SndS CX G Φ n N .nil := by
  refine ⟨fun {E k X st} o hN hx => (by cases hx), fun {E k X sts} o hN hx => ?_⟩
  have hx' : sts.isEmpty = true := hx
  cases sts with
  | cons _ _ => cases hx'
  | nil =>
    refine PSs.imp pss_nil fun D σ H q => ?_
    obtain ⟨h, ρ, S, D', s, q, k⟩ := q
    exact k.nx _ _ _ _ s (Same.refl _) q
theorem gh_imp {c : Ct0} {s r : CS} {D : Ends} {σ : L2.St} {H : Hp} (hs : isGh s = true) (q : tOfS c (wps Φ (.seq s r)) D σ H) : tOfS c (wps Φ r) D σ H := by
  obtain ⟨h, ρ, S, D', s', q, k⟩ := q
  cases s with
  | gfrz i =>
    obtain ⟨p, ws, hr, hp, q⟩ := q
    obtain ⟨v, hv, rv⟩ := s'.var i _ hr
    cases rv
    obtain ⟨u, hu, vs, rfl, r1⟩ := s'.sto.at' p _ hp
    have hf : fz (sdel S p) H p = some (.lst vs) := by rw [fz_none sdel_same]; exact hu
    have nh : ((c.at h).K).h p = false := by
      cases e : ((c.at h).K).h p with
      | false => rfl
      | true =>
        have := (s'.sto.hid p e).1
        rw [hp] at this; cases this
    have s2 : Sim (c.at h).K (ρ.set i (some (.lst ws))) (σ.set i (some (.ref p))) (sdel S p) H := (s'.to same_del s'.sto.del).set (.lst nh (.inl hf) (r1.mono same_del))
    have e : σ.set i (some (.ref p)) = σ := by
      apply List.ext_getElem?
      intro j
      by_cases hj : i = j
      · subst hj
        have hl : i < σ.length := by
          have := List.getElem?_eq_some_iff.mp hv
          exact this.1
        rw [List.getElem?_set_self hl, hv]
      · rw [List.getElem?_set_ne hj]
    rw [e] at s2
    exact ⟨h, _, _, D', s2, q, k.to same_del⟩
  | gdrop =>
    obtain ⟨S', f, q⟩ := q
    exact ⟨h, ρ, S', D', s'.to (same_fewer f) (s'.sto.fewer f), q, k.to (same_fewer f)⟩
  | _ => cases hs
theorem snds_gh {s : CS} (hs : isGh s = true) (h1 : ∀ k st, (cks G N n s).s k st = false) (h2 : ∀ k sts, (cks G N n s).b k sts = sts.isEmpty) : SndS CX G Φ n N s := by
  refine ⟨fun {E k X st} o hN hx => (by rw [h1] at hx; cases hx), fun {E k X sts} o hN hx => ?_⟩
  rw [h2] at hx
  cases sts with
  | cons _ _ => cases hx
  | nil =>
    refine PSs.imp (snds_nil.b (sts := []) o hN rfl) fun D σ H q => gh_imp hs ?_
    obtain ⟨h, ρ, S, D', s', q, k⟩ := q
    exact ⟨h, ρ, S, D', s', q, k⟩
theorem snds_seq {s r : CS} (h1 : SndS CX G Φ n N s) (h2 : SndS CX G Φ n N r) : SndS CX G Φ n N (.seq s r) := by
  refine ⟨fun {E k X st} o hN hx => (by cases hx), fun {E k X sts} o hN hx => ?_⟩
  by_cases hg : isGh s = true
  · have hx' : (cks G N n r).b k sts = true := by
      have : (if isGh s = true then (cks G N n r).b k sts else _) = true := hx
      rwa [if_pos hg] at this
    exact PSs.imp (h2.b o hN hx') fun D σ H q => gh_imp hg q
  · cases sts with
    | nil =>
      have : (if isGh s = true then (cks G N n r).b k [] else false) = true := hx
      rw [if_neg hg] at this
      cases this
    | cons st rest =>
      have hx' : (if isGh s = true then (cks G N n r).b k (st :: rest) else (cks G N n s).s k st && (cks G N n r).b k rest) = true := hx
      rw [if_neg hg, Bool.and_eq_true] at hx'
      refine PSs.imp (pss_cons (h1.s o hN hx'.1) (h2.b o hN hx'.2)) fun D σ H q => ?_
      obtain ⟨h, ρ, S, D', s', q, k'⟩ := q
      exact ⟨h, ρ, S, _, s', q, k'.seq fun ρ1 S1 σ1 H1 s1 e1 q1 => ⟨h, ρ1, S1, D', s1, q1, k'.to e1⟩⟩
theorem snds_asg {t e : CE} : SndS CX G Φ n N (.asg t e) := by
  refine snds1 _ rfl fun {E k X st} o hN hx => ?_
  split at hx
  · rename_i tg v pos
    simp only [Bool.and_eq_true] at hx
    obtain ⟨⟨⟨⟨h1, h2⟩, h3⟩, h4⟩, h5⟩ := hx
    have sw := sw_eq (l := pos.line) (value := v) (tg := tg) o.sc h1 h3
    have fin : ∀ {D : Ends} {σ : L2.St} {H : Hp}, tOfS ⟨X.K, E⟩ (wps Φ (.asg t e)) D σ H → tAsg (tOf ⟨X.K, E⟩ (wp Φ e).e) (tOfG ⟨X.K, E⟩ (als t) (wp Φ t).g) D σ H := fun q => by
      obtain ⟨h, ρ, S, D', s', q, k'⟩ := q
      refine ⟨h, ρ, S, _, _, s', q, fun w S1 v H1 s1 e1 r1 q1 => ?_, k'.xc _⟩
      exact ⟨h, w, ρ, S1, _, s1, r1, q1, fun ρ2 S2 σ2 H2 s2 e2 _ q2 => k'.nx _ _ _ _ s2 (e1.trans e2) q2⟩
    by_cases hs : swB k.sc v tg = true
    · rw [if_pos hs] at h5
      unfold ckL at h5
      split at h5
      · rename_i i live own tg' it cond elt y py x t' i' ifs scope p2
        simp only [Bool.and_eq_true] at h5
        obtain ⟨⟨⟨⟨⟨⟨⟨⟨b1, b2⟩, a1⟩, a2⟩, a3⟩, a4⟩, a5⟩, a6⟩, a7⟩ := h5
        have b2' : X.env.scope.names.lookup y = some .local := by rw [o.sc]; exact of_decide_eq_true b2
        have ok : BlkOk X.N X.env.scope scope own := by rw [hN, o.sc]; exact blkOk_by a1
        rw [hs] at sw
        refine PS.imp (ps_setLc (i := i) (g := tOfG ⟨X.K, fun _ => E0⟩ (als tg') (wp Φ tg').g) (tt := tOfT ⟨X.K, fun _ => E0⟩ fun ρ S Q _ => (wp Φ cond).c ρ S Q) (te := tOf ⟨X.K, fun _ => E0⟩ (wp Φ elt).e) o.calm o.nd
          (by rw [hN]; exact of_decide_eq_true b1) b2' sw ((snd_all it).i o hN a4) ok (fun s H C cl fp => (snd_all tg').g (ok_blk o) hN a5) (fun s H C cl fp => (snd_all cond).cc (ok_blk o) hN a6) (fun s H C cl fp => (snd_all elt).e (ok_blk o) hN a7) (fold_of a2)) fun D σ H q => ?_
        obtain ⟨h, ρ, S, D', s', q, k'⟩ := q
        refine imp_lc (c := ⟨X.K, E⟩) (c' := ⟨X.K, fun _ => E0⟩) rfl (fun j hj => by simpa using List.all_eq_true.mp a3 j hj) ⟨h, ρ, S, _, _, s', q, fun w S1 v H1 s1 e1 r1 q1 => ?_, k'.xc _⟩
        exact k'.nx _ _ _ _ (s1.set r1) e1 q1
      · cases h5
    · rw [if_neg hs, Bool.and_eq_true] at h5
      have hs' : swB k.sc v tg = false := by simpa using hs
      rw [hs'] at sw
      exact PS.imp (ps_asg ((snd_all e).e o hN h5.1) ((snd_all t).g o hN h5.2) sw (sws_none h4) (by rw [asg_of h2]; rfl)) fun D σ H q => fin q
  · cases hx
theorem setAll2 {ρ : Env} {i j : Nat} {w v : W} : setAll ρ [i, j] [w, v] = (ρ.set i (some w)).set j (some v) := rfl
theorem snds_par {is : List Nat} {es : CE} : SndS CX G Φ n N (.par is es) := by
  refine snds1 _ rfl fun {E k X st} o hN hx => ?_
  split at hx
  · rename_i x px y py k1 p1 a b k2 p2 pos i j
    simp only [Bool.and_eq_true] at hx
    obtain ⟨⟨⟨⟨⟨⟨⟨⟨h1, h2⟩, h3⟩, h4⟩, h5⟩, h6⟩, h7⟩, h8⟩, h9⟩ := hx
    have hw := sws_eq (k := k1) (p := p1) (k2 := k2) (p2 := p2) o.sc h1 h2
    rw [of_decide_eq_true h3] at hw
    refine PS.imp (ps_par (i := i) (j := j) o.calm o.nd (by rw [hN]; exact of_decide_eq_true h4) (by rw [hN]; exact of_decide_eq_true h5) (of_decide_eq_true h6) (by rw [o.sc]; exact of_decide_eq_true h7) (by rw [o.sc]; exact of_decide_eq_true h8) ((snd_all es).es o hN h9) hw) fun D σ H q => ?_
    obtain ⟨h, ρ, S, D', s', q, k'⟩ := q
    refine ⟨h, ρ, S, _, _, s', q, fun ws S1 vs H1 s1 e1 r1 q1 => ?_, k'.xc _⟩
    obtain ⟨hl, q1⟩ := q1
    match ws, hl, r1, q1 with
    | [w1, w2], _, .cons r1 (.cons r2 .nil), q1 => exact ⟨_, _, rfl, k'.nx _ _ _ _ ((s1.set r1).set r2) e1 q1⟩
  · rename_i x px y py z pz k1 p1 a b c k2 p2 pos i j l
    simp only [Bool.and_eq_true] at hx
    obtain ⟨⟨⟨⟨⟨⟨⟨⟨⟨⟨⟨⟨h1, h2⟩, h3⟩, h4⟩, h5⟩, h6⟩, h7⟩, h8⟩, h9⟩, g1⟩, g2⟩, g3⟩, g4⟩ := hx
    have hw := sws_eq (k := k1) (p := p1) (k2 := k2) (p2 := p2) o.sc h1 h2
    rw [of_decide_eq_true h3] at hw
    refine PS.imp (ps_par3 (i := i) (j := j) (l := l) o.calm o.nd (by rw [hN]; exact of_decide_eq_true h4) (by rw [hN]; exact of_decide_eq_true h5) (by rw [hN]; exact of_decide_eq_true h6) (of_decide_eq_true h7) (of_decide_eq_true h8) (of_decide_eq_true h9)
      (by rw [o.sc]; exact of_decide_eq_true g1) (by rw [o.sc]; exact of_decide_eq_true g2) (by rw [o.sc]; exact of_decide_eq_true g3) ((snd_all es).es o hN g4) hw) fun D σ H q => ?_
    obtain ⟨h, ρ, S, D', s', q, k'⟩ := q
    refine ⟨h, ρ, S, _, _, s', q, fun ws S1 vs H1 s1 e1 r1 q1 => ?_, k'.xc _⟩
    obtain ⟨hl, q1⟩ := q1
    match ws, hl, r1, q1 with
    | [w1, w2, w3], _, .cons r1 (.cons r2 (.cons r3 .nil)), q1 => exact ⟨_, _, _, rfl, k'.nx _ _ _ _ (((s1.set r1).set r2).set r3) e1 q1⟩
  · cases hx
theorem ip_of {sb : Bool} : PIp X (if sb = true then Operator.Sub else Operator.Add) (ipI (augI sb)) := by
  cases sb with
  | true => exact ip_sub
  | false => exact ip_add
theorem snds_aug {i : Nat} {sb : Bool} {e : CE} : SndS CX G Φ n N (.aug i sb e) := by
  refine snds1 _ rfl fun {E k X st} o hN hx => ?_
  split at hx
  · rename_i x px op v pos
    simp only [Bool.and_eq_true] at hx
    obtain ⟨⟨⟨h1, h2⟩, h3⟩, h4⟩ := hx
    obtain rfl := of_decide_eq_true h1
    have l := loc_of o h3
    refine PS.imp (ps_aug (i := i) o.nd (by rw [hN]; exact of_decide_eq_true h2) l.1 ((snd_all e).e o hN h4) ip_of l.2) fun D σ H q => ?_
    obtain ⟨h, ρ, S, D', s', ⟨w, hw, q⟩, k'⟩ := q
    obtain ⟨u, hu, ru⟩ := s'.var i _ hw
    refine ⟨u, hu, h, ρ, S, _, _, s', q, fun y S1 v H1 s1 e1 r1 q1 => ?_, k'.xc _⟩
    obtain ⟨a, b, rfl, rfl, q1⟩ := q1
    cases r1; cases ru
    exact ⟨_, _, rfl, rfl, k'.nx _ _ _ _ (s1.set (.int _)) e1 q1⟩
  · cases hx
theorem snds_augS {a i : CE} {sb : Bool} {e : CE} : SndS CX G Φ n N (.augS a i sb e) := by
  refine snds1 _ rfl fun {E k X st} o hN hx => ?_
  split at hx
  · rename_i x y px op v pos
    simp only [Bool.and_eq_true] at hx
    obtain ⟨⟨⟨⟨h1, h2⟩, h3⟩, h4⟩, h5⟩ := hx
    obtain rfl := of_decide_eq_true h1
    have hu : X.A.units + 1 < cLine := by have := units_of o.room; omega
    refine PS.imp (ps_augS ((snd_all a).e o hN h3) ((snd_all i).e o hN h4) (pget hu) ((snd_all e).e o hN h5) ip_of (set_all hu) ?_) fun D σ H q => ?_
    · intro ov iv new
      cases y <;> first | rfl | exact Bool.noConfusion h2
    · obtain ⟨h, ρ, S, D', s', q, k'⟩ := q
      refine ⟨h, ρ, S, _, _, s', q, fun x S1 vx H1 s1 e1 r1 q1 => ⟨h, ρ, S1, _, _, s1, q1, fun y S2 vy H2 s2 e2 r2 q2 => ?_, (k'.xc _).to e1⟩, k'.xc _⟩
      refine get_int (C := (⟨X.K, E⟩ : Ct0).at h) s2 (r1.mono e2) r2 q2.1 q2.2 fun w S3 v H3 s3 e3 r3 q3 => ?_
      refine ⟨h, ρ, S3, _, _, s3, q3, fun z S4 vz H4 s4 e4 r4 q4 => ?_, (k'.xc _).to ((e1.trans e2).trans e3)⟩
      obtain ⟨m1, m2, rfl, rfl, q4⟩ := q4
      cases r3; cases r4
      refine ⟨_, _, rfl, rfl, ?_⟩
      exact sets (C := (⟨X.K, E⟩ : Ct0).at h) s4 (r1.mono ((e2.trans e3).trans e4)) (r2.mono (e3.trans e4)) (.int _) q4 fun S5 H5 s5 e5 q5 => k'.nx _ _ _ _ s5 ((((e1.trans e2).trans e3).trans e4).trans e5) q5
  · cases hx
theorem snds_expr {e : CE} : SndS CX G Φ n N (.expr e) := by
  refine snds1 _ rfl fun {E k X st} o hN hx => ?_
  split at hx
  · rename_i v pos
    simp only [Bool.and_eq_true] at hx
    obtain ⟨⟨h1, h2⟩, h3⟩ := hx
    refine PS.imp (ps_expr ((snd_all e).e o hN h3) ?_) fun D σ H q => ?_
    · cases v <;> first | rfl | exact Bool.noConfusion h1 | exact Bool.noConfusion h2
    · obtain ⟨h, ρ, S, D', s', q, k'⟩ := q
      exact ⟨h, ρ, S, _, _, s', q, fun w S1 v H1 s1 e1 r1 q1 => k'.nx _ _ _ _ s1 e1 q1, k'.xc _⟩
  · cases hx
theorem snds_ret {e : CE} : SndS CX G Φ n N (.ret e) := by
  refine snds1 _ rfl fun {E k X st} o hN hx => ?_
  split at hx
  · refine PS.imp (ps_ret ((snd_all e).e o hN hx)) fun D σ H q => ?_
    obtain ⟨h, ρ, S, D', s', q, k'⟩ := q
    exact ⟨h, ρ, S, _, _, s', q, fun w S1 v H1 s1 e1 r1 q1 => k'.rt _ _ _ _ s1.sto e1 r1 q1, k'.xc _⟩
  · cases hx
theorem snds_retN : SndS CX G Φ n N .retN := by
  refine snds1 _ rfl fun {E k X st} o hN hx => ?_
  split at hx
  · refine PS.imp ps_retN fun D σ H q => ?_
    obtain ⟨h, ρ, S, D', s', q, k'⟩ := q
    exact k'.rt _ _ _ _ s'.sto (Same.refl _) .non q
  · cases hx
theorem snds_iff {t : CE} {a b : CS} (h1 : SndS CX G Φ n N a) (h2 : SndS CX G Φ n N b) : SndS CX G Φ n N (.iff t a b) := by
  refine snds1 _ rfl fun {E k X st} o hN hx => ?_
  split at hx
  · simp only [Bool.and_eq_true] at hx
    refine PS.imp (ps_if ((snd_all t).t o hN hx.1.1) (h1.b o hN hx.1.2) (h2.b o hN hx.2)) fun D σ H q => ?_
    obtain ⟨h, ρ, S, D', s', q, k'⟩ := q
    refine ⟨h, ρ, S, _, _, s', q, fun r S1 H1 s1 e1 q1 => ?_, k'.xc _⟩
    cases r with
    | true =>
      rw [if_pos rfl] at q1
      exact iteT ⟨h, ρ, S1, D', s1, q1, k'.to e1⟩
    | false =>
      rw [if_neg Bool.false_ne_true] at q1
      exact iteF ⟨h, ρ, S1, D', s1, q1, k'.to e1⟩
  · cases hx
theorem snds_fr {t it : CE} {b : CS} (h : SndS CX G Φ n N b) : SndS CX G Φ n N (.fr t it b) := by
  refine snds1 _ rfl fun {E k X st} o hN hx => ?_
  split at hx
  · simp only [Bool.and_eq_true] at hx
    obtain ⟨⟨⟨h1, h2⟩, h3⟩, h4⟩ := hx
    exact PS.imp (ps_for o.own o.calm ((snd_all it).i o hN h2) ((snd_all t).g o hN h3) (h.b o hN h4) (fold_of h1)) fun D σ H q => imp_for q
  · cases hx
theorem snds_whl {t : CE} {b : CS} (h : SndS CX G Φ n N b) : SndS CX G Φ n N (.whl t b) := by
  refine snds1 _ rfl fun {E k X st} o hN hx => ?_
  split at hx
  · simp only [Bool.and_eq_true] at hx
    exact PS.imp (ps_while o.own ((snd_all t).t o hN hx.1) (h.b o hN hx.2)) fun D σ H q => imp_while q
  · cases hx
theorem snds_cont : SndS CX G Φ n N .cont := by
  refine snds1 _ rfl fun {E k X st} o hN hx => ?_
  split at hx
  · refine PS.imp ps_continue fun D σ H q => ?_
    obtain ⟨h, ρ, S, D', s', q, k'⟩ := q
    exact k'.ct _ _ _ _ s' (Same.refl _) q
  · cases hx
theorem snds_brk : SndS CX G Φ n N .brk := by
  refine snds1 _ rfl fun {E k X st} o hN hx => ?_
  split at hx
  · refine PS.imp ps_break fun D σ H q => ?_
    obtain ⟨h, ρ, S, D', s', q, k'⟩ := q
    exact k'.bk _ _ _ _ s' (Same.refl _) q
  · cases hx
theorem snds_pass : SndS CX G Φ n N .pass := by
  refine snds1 _ rfl fun {E k X st} o hN hx => ?_
  split at hx
  · refine PS.imp ps_pass fun D σ H q => ?_
    obtain ⟨h, ρ, S, D', s', q, k'⟩ := q
    exact k'.nx _ _ _ _ s' (Same.refl _) q
  · cases hx
theorem snds_never : SndS CX G Φ n N .never := by
  refine ⟨fun {E k X st} o hN hx => PS.imp ps_never fun D σ H q => ?_, fun {E k X sts} o hN hx => PSs.imp pss_never fun D σ H q => ?_⟩
  all_goals
    obtain ⟨h, ρ, S, D', s', q, k'⟩ := q
    exact q.elim
theorem snds_all : ∀ c : CS, SndS CX G Φ n N c := by
  intro c
  induction c with
  | nil => exact snds_nil
  | seq s r h1 h2 => exact snds_seq h1 h2
  | asg t e => exact snds_asg
  | par is es => exact snds_par
  | aug i sb e => exact snds_aug
  | augS o i sb e => exact snds_augS
  | expr e => exact snds_expr
  | ret e => exact snds_ret
  | retN => exact snds_retN
  | iff t a b h1 h2 => exact snds_iff h1 h2
  | fr t it b h => exact snds_fr h
  | whl t b h => exact snds_whl h
  | cont => exact snds_cont
  | pass => exact snds_pass
  | brk => exact snds_brk
  | gfrz i => exact snds_gh rfl (fun _ _ => rfl) (fun _ _ => rfl)
  | gdrop => exact snds_gh rfl (fun _ _ => rfl) (fun _ _ => rfl)
  | never => exact snds_never
end
end MP

set_option Elab.async false
set_option linter.all false
set_option maxRecDepth 100000
set_option maxHeartbeats 4000000
/-! MP13: defs by their cores; the module's context; the law's end. -/
namespace MP
open PySem PySem.Spec PyProof.Rows L2

def startW (N : List Str) (ws : List W) : Env := ws.map some ++ List.replicate (N.length - ws.length) none
theorem start_get : ∀ {ws : List W} {vs : List V} {K : KH} {F : Hp} {m i : Nat} {w : W}, RepL K F ws vs → (ws.map some ++ List.replicate m none)[i]? = some (some w) → ∃ v, (vs.map some ++ List.replicate m (none : Option V))[i]? = some (some v) ∧ Rep K F w v
  | [], _, K, F, m, i, w, .nil, h => by
    exfalso
    rw [List.map_nil, List.nil_append] at h
    by_cases hi : i < m
    · rw [List.getElem?_replicate_of_lt hi] at h; cases h
    · rw [List.getElem?_eq_none (by rw [List.length_replicate]; omega)] at h; cases h
  | w0 :: ws, _, K, F, m, 0, w, .cons r rs, h => by
    have e : w0 = w := by simpa using h
    subst e
    exact ⟨_, rfl, r⟩
  | w0 :: ws, _, K, F, m, i + 1, w, .cons r rs, h => start_get (ws := ws) (m := m) (i := i) rs h
theorem sim_start {K : KH} {S : Sto} {H : Hp} {N : List Str} {ws : List W} {vs : List V} (r : RepL K (fz S H) ws vs) (k : StoOk K S H) : Sim K (startW N ws) (L2.start N vs) S H := by
  refine ⟨fun i w h => ?_, ?_, k⟩
  · unfold startW at h
    unfold L2.start
    rw [← r.length]
    exact start_get r h
  · unfold startW L2.start
    rw [List.length_append, List.length_append, List.length_map, List.length_map, List.length_replicate, List.length_replicate, r.length]
/-- what a def's body is to reach: what it leaves beside is forgotten -/
def dNx (Q : WK) : Env → Sto → Prop := fun _ S' => ∃ S2, Fewer S2 S' ∧ Q .non S2
def dRt (Q : WK) : WK := fun w S' => ∃ S2, Fewer S2 S' ∧ Q w S2
def dNo : Env → Sto → Prop := fun _ _ => False
def dXc (X : XC) : XC := fun e S' => ∃ S2, Fewer S2 S' ∧ X e S2
def dEnds (Q : WK) (X : XC) : WEnds := ⟨dNx Q, dRt Q, dNo, dNo, dXc X⟩
theorem dXc_no {e : Exn} {S : Sto} (h : dXc XN e S) : False := by
  obtain ⟨_, _, z⟩ := h
  exact z
section
variable {P : Program} {w : World} {K : PySem.W.Frag} {mg : Str → Option Value} {base : Heap} {G : Gv} {Φ : Nat → Spec} {n : Nat}
/-- a def keeps its spec -/
theorem def_ok {x qual : Str} {st : Stmt} {f : Addr} {fd : FuncData} {N ps : List Str} {c : CS} (F : Fun K x qual st f fd) (Z : FnScope N ps (defScope st)) (g : GOk P w K mg base CX0 G Φ n)
    (hc : (cks G N n c).b ⟨defScope st, none⟩ (defBody st) = true) (hl : ∀ ws S Q X, Φ n ws S Q X → ws.length = ps.length)
    (h : ∀ ws S Q X, Φ n ws S Q X → wps Φ c (startW N ws) S (dEnds Q XN)) : FnOk P w K mg base CX0 (n + 1) f fd ps (spOf K (Φ n)) := by
  refine F.ok Z (fun vs H Q E q => ?_) (fun cdv A outer s H vs Q E hr q => ?_)
  · obtain ⟨hh, ws, S, Qw, Xw, r, _, q, _⟩ := q
    rw [← r.length]
    exact hl _ _ _ _ q
  · obtain ⟨hh, ws, S, Qw, Xw, r, k, q, kv, _⟩ := q
    have o : XOk CX0 G Φ n (fun _ => E0) ⟨defScope st, none⟩ (cxOf CX0 P w K mg base N qual (defScope st) f cdv A outer s H E).nox :=
      ⟨g, rfl, Z.nd, hr, rfl, fun _ _ => rfl, fun _ _ _ _ _ _ _ z => z.elim, PassesOwn.never⟩
    refine ⟨_, (snds_all c).b o rfl hc, ?_⟩
    refine ⟨hh, startW N ws, S, dEnds Qw XN, sim_start r k, h _ _ _ _ q, ?_, ?_, ?_, ?_, ?_⟩
    · rintro ρ' S' σ' H' s1 e1 ⟨S2, f2, q2⟩
      exact kv _ _ _ _ (s1.sto.fewer f2) (e1.trans (same_fewer f2)) .non q2
    · rintro w' S' v H' k1 e1 r1 ⟨S2, f2, q2⟩
      exact kv _ _ _ _ (k1.fewer f2) (e1.trans (same_fewer f2)) (r1.mono (same_fewer f2)) q2
    · exact fun _ _ _ _ _ _ z => z.elim
    · exact fun _ _ _ _ _ _ z => z.elim
    · exact fun _ => fun x S2 H2 d k' e' r z => (dXc_no z).elim
/-- the defs so far, one more -/
theorem GOk.step {CX : CXT} (g : GOk P w K mg base CX G Φ n) {x : Str} {m : Nat} {f : Addr} {fd : FuncData} {ps : List Str} (hx : G.fns[n]? = some (x, m)) (hm : mg x = some (.ref f)) (hk : PySem.W.keepIn K (.ref f) = true) (hl : ps.length = m) (hb : Binds K fd ps [])
    (F : FnOk P w K mg base CX (n + 1) f fd ps (spOf K (Φ n))) : GOk P w K mg base CX G Φ (n + 1) where
  fns := fun i y l hy hi => by
    by_cases e : i = n
    · subst e
      rw [hx] at hy
      cases hy
      exact ⟨f, fd, ps, hm, hk, hl, hb, F⟩
    · exact g.fns i y l hy (by omega)
  blt := g.blt
  more := g.more
  glb := g.glb
  e0 := g.e0
theorem GOk.zero (hb : ∀ b : Blt, mg b.nm = none) (hm : mg "range" = none ∧ mg "zip" = none ∧ mg "enumerate" = none ∧ mg "isinstance" = none ∧ mg "set" = none ∧ mg "sorted" = none ∧ mg "dict" = none ∧ mg "reversed" = none ∧ mg "bool" = none) (hg : G.glb = []) :
    GOk P w K mg base CX0 G Φ 0 where
  fns := fun _ _ _ _ h => absurd h (Nat.not_lt_zero _)
  blt := hb
  more := hm
  glb := fun x c h => by rw [hg] at h; cases h
  e0 := fun _ _ _ _ _ _ _ _ _ _ z => z.elim
end
/-- the law's own promise -/
def spLaw (ns : List Int) : Prop := ns.length ≤ 63
/-- nothing stands -/
def S00 : Sto := fun _ => none
theorem stoOk0 {K : PySem.W.Frag} {H : Hp} : StoOk ⟨K, fun _ => false⟩ S00 H := ⟨fun _ _ h => (by cases h), fun _ h => (by cases h)⟩
def lawSpec (n : Nat) : Spec := fun ws S Q _ => ∃ ns : List Int, ws = [.lst (ns.map W.int)] ∧ ns.length ≤ n ∧ S = S00 ∧ Q (.bl true) S00
theorem rep_ints {K : KH} {F : Hp} : ∀ ns : List Int, RepL K F (ns.map W.int) (ns.map V.int)
  | [] => .nil
  | n :: ns => .cons (.int n) (rep_ints ns)
theorem walk_ofM {l : PySem.W.OpenLaw} {n k : Nat} {q : Program} {loose : List Str} {XP : (Str → Option Value) → Heap → Prop} {YP : World → Heap → Prop} {d : DefRec} {K : Params → PySem.W.Frag} {x : Str} {sp : Spec}
    (hn : l.most = some n) (hn2 : n ≤ sizeLine) (hdf : d.params.defaults = []) (hr : Room k callerA) (hY : ∀ (w : World) (h : Heap), YP w h → (K w.params).In h) (hs : sp = lawSpec n)
    (F : ∀ (w : World) (mg : Str → Option Value) (fa : Addr) (h : Heap), (K w.params).In h → h.Ns mainGlobals mg → mg d.name = some (.ref fa) →
      ∃ fd : FuncData, (∀ (s : Shared) (u : Value), BindsTo s fd ⟨[u], []⟩ [(x, u)]) ∧ ∀ base : Heap, (K w.params).In base → base.Ns mainGlobals mg → FnOk l.prog w (K w.params) mg base CX0 k fa fd [x] (spOf (K w.params) sp)) :
    PySem.W.WalkO q loose XP YP l.row.toRowW d [] (fun f vs => PySem.call f vs) := by
  refine Att.attach_call hn hdf fun w' sA sB mg' mb' fa' ob' pm' cd' doc' ad' vs' ns' G' Y' ho' hd' hcd' hmg' hobj' hints' hlen' hgens' => ?_
  have KX' := hY w' _ Y'
  obtain ⟨fd', hb', hF'⟩ := F w' mg' fa' _ KX' G'.T.g hmg'
  refine law_call KX' G'.T.g G'.T.b G'.T.builtins G'.T.nolimit hgens' hobj' hints' (Nat.le_trans hlen' hn2) hr hF' hb' (fun H _ hS => ?_) fun _ _ _ z => z
  subst hs
  refine ⟨fun _ => false, [.lst (ns'.map W.int)], S00, fun y _ => y = .bl true, XN, .cons ?_ .nil, stoOk0, ⟨ns', rfl, hlen', rfl, rfl⟩, ?_, XCk.no⟩
  · rcases hS with hS | ⟨o', its', m', hk', hc', hdd', hda', hz', hv'⟩
    · exact .lst rfl hS (rep_ints ns')
    · have e := KX' _ _ hk'
      rw [hobj'] at e
      cases e
      cases hda'
      exact .klst ⟨_, _, hk', hz', hv'⟩ (rep_ints ns')
  · rintro y S' v H' _ _ r rfl
    cases r
    rfl
end MP

set_option Elab.async false
set_option linter.all false
set_option maxRecDepth 100000
set_option maxHeartbeats 4000000
/-! MP14: short steps through a core's demand. -/
namespace MP
open PySem PySem.Spec PyProof.Rows L2

section
variable {Φ : Nat → Spec} {ρ : Env} {S : Sto} {D : WEnds} {Q : WK} {X : XC} {a b c e t it : CE} {s r : CS} {live : Bool}
/-! ### statements -/
section
variable {nx bk ct : Env → Sto → Prop} {rt : WK} {xc : XC}
theorem s_nil (h : nx ρ S) : wps Φ .nil ρ S ⟨nx, rt, bk, ct, xc⟩ := h
theorem s_seq (h : wps Φ s ρ S ⟨fun ρ1 S1 => wps Φ r ρ1 S1 ⟨nx, rt, bk, ct, xc⟩, rt, bk, ct, xc⟩) : wps Φ (.seq s r) ρ S ⟨nx, rt, bk, ct, xc⟩ := h
theorem s_asg (h : (wp Φ e).e ρ S (fun w S1 => (wp Φ t).g w ρ S1 nx) xc) : wps Φ (.asg t e) ρ S ⟨nx, rt, bk, ct, xc⟩ := h
theorem s_par {is : List Nat} (h : (wp Φ e).es ρ S (fun ws S1 => ws.length = is.length ∧ nx (setAll ρ is ws) S1) xc) : wps Φ (.par is e) ρ S ⟨nx, rt, bk, ct, xc⟩ := h
theorem s_aug' {i : Nat} {sb : Bool} {x : W} (h0 : ρ[i]? = some (some x)) (h : (wp Φ e).e ρ S (fun y S1 => ∃ a b, x = .int a ∧ y = .int b ∧ nx (ρ.set i (some (.int (augI sb a b)))) S1) xc) : wps Φ (.aug i sb e) ρ S ⟨nx, rt, bk, ct, xc⟩ := ⟨x, h0, h⟩
theorem s_augS {sb : Bool} (h : (wp Φ a).e ρ S (fun x S1 => (wp Φ b).e ρ S1 (fun k S2 => (∃ a, x = .ref a) ∧ idxW x k S2 fun v S3 => (wp Φ e).e ρ S3 (fun y S4 =>
      ∃ a b, v = .int a ∧ y = .int b ∧ setW x k (.int (augI sb a b)) S4 fun S6 => nx ρ S6) xc) xc) xc) : wps Φ (.augS a b sb e) ρ S ⟨nx, rt, bk, ct, xc⟩ := h
theorem s_expr (h : (wp Φ e).e ρ S (fun _ S1 => nx ρ S1) xc) : wps Φ (.expr e) ρ S ⟨nx, rt, bk, ct, xc⟩ := h
theorem s_ret (h : (wp Φ e).e ρ S rt xc) : wps Φ (.ret e) ρ S ⟨nx, rt, bk, ct, xc⟩ := h
theorem s_retN (h : rt .non S) : wps Φ .retN ρ S ⟨nx, rt, bk, ct, xc⟩ := h
theorem s_iff (h : (wp Φ t).t ρ S (fun q S1 => if q = true then wps Φ s ρ S1 ⟨nx, rt, bk, ct, xc⟩ else wps Φ r ρ S1 ⟨nx, rt, bk, ct, xc⟩) xc) : wps Φ (.iff t s r) ρ S ⟨nx, rt, bk, ct, xc⟩ := h
theorem s_fr (h : (wp Φ it).i ρ S (fun src items S1 => wpFor src (wp Φ t).g (wps Φ s) items ρ S1 ⟨nx, rt, bk, ct, xc⟩) xc) : wps Φ (.fr t it s) ρ S ⟨nx, rt, bk, ct, xc⟩ := h
theorem s_cont (h : ct ρ S) : wps Φ .cont ρ S ⟨nx, rt, bk, ct, xc⟩ := h
theorem s_brk (h : bk ρ S) : wps Φ .brk ρ S ⟨nx, rt, bk, ct, xc⟩ := h
theorem s_pass (h : nx ρ S) : wps Φ .pass ρ S ⟨nx, rt, bk, ct, xc⟩ := h
theorem s_gfrz {i : Nat} {p : Addr} {ws : List W} (h0 : ρ[i]? = some (some (.ref p))) (h1 : S p = some (.lst ws)) (h : nx (ρ.set i (some (.lst ws))) (sdel S p)) : wps Φ (.gfrz i) ρ S ⟨nx, rt, bk, ct, xc⟩ := ⟨p, ws, h0, h1, h⟩
theorem s_whl (I : Nat → Env → Sto → Prop) (m : Nat) (h0 : I m ρ S) (h : ∀ m ρ S, I m ρ S → (wp Φ t).t ρ S (fun q S1 =>
      if q = true then wps Φ s ρ S1 ⟨fun ρ2 S2 => ∃ m', m' < m ∧ I m' ρ2 S2, rt, nx, fun ρ2 S2 => ∃ m', m' < m ∧ I m' ρ2 S2, xc⟩ else nx ρ S1) xc) : wps Φ (.whl t s) ρ S ⟨nx, rt, bk, ct, xc⟩ := ⟨I, ⟨m, h0⟩, h⟩
theorem s_drop {S' : Sto} (f : Fewer S' S) (h : nx ρ S') : wps Φ .gdrop ρ S ⟨nx, rt, bk, ct, xc⟩ := ⟨S', f, h⟩
end
/-- the end of a def -/
theorem d_in (h : wps Φ s ρ S ⟨dNx Q, dRt Q, dNo, dNo, dXc X⟩) : wps Φ s ρ S (dEnds Q X) := h
theorem fewer_rfl {S : Sto} : Fewer S S := fun _ _ h => h
theorem d_ret {w : W} {S0 : Sto} (f : Fewer S0 S) (h : Q w S0) : dRt Q w S := ⟨S0, f, h⟩
theorem d_same {w : W} (h : Q w S) : dRt Q w S := ⟨S, fewer_rfl, h⟩
theorem d_nx {S0 : Sto} (f : Fewer S0 S) (h : Q .non S0) : dNx Q ρ S := ⟨S0, f, h⟩
theorem d_end (h : Q .non S) : dNx Q ρ S := ⟨S, fewer_rfl, h⟩

/-! ### expressions -/
theorem e_var {i : Nat} {w : W} (h : ρ[i]? = some (some w)) (q : Q w S) : (wp Φ (.var i)).e ρ S Q X := ⟨w, h, q⟩
theorem e_int {i : Int} (q : Q (.int i) S) : (wp Φ (.cst (.int i))).e ρ S Q X := ⟨_, rfl, q⟩
theorem e_str {x : Str} (q : Q (.str x) S) : (wp Φ (.cst (.str x))).e ρ S Q X := ⟨_, rfl, q⟩
theorem e_bool {x : Bool} (q : Q (.bl x) S) : (wp Φ (.cst (.bool x))).e ρ S Q X := ⟨_, rfl, q⟩
theorem e_none (q : Q .non S) : (wp Φ (.cst .none)).e ρ S Q X := ⟨_, rfl, q⟩
theorem e_bin {op : Bop} (h : (wp Φ a).e ρ S (fun x S1 => (wp Φ b).e ρ S1 (fun y S2 => bopW live op x y S2 Q) X) X) : (wp Φ (.bin live op a b)).e ρ S Q X := h
theorem e_neg (h : (wp Φ a).e ρ S (fun x S1 => ∃ i, x = .int i ∧ Q (.int (-i)) S1) X) : (wp Φ (.neg a)).e ρ S Q X := h
theorem e_nt (h : (wp Φ a).e ρ S (fun x S1 => ∃ b, truW S1 x = some b ∧ Q (.bl !b) S1) X) : (wp Φ (.nt a)).e ρ S Q X := h
theorem e_cmp {op : CmpOp} (h : (wp Φ a).e ρ S (fun x S1 => (wp Φ b).e ρ S1 (fun y S2 => cmpW op x y S2 fun r => Q (.bl r) S2) X) X) : (wp Φ (.cmp op a b)).e ρ S Q X := h
theorem e_chain {o1 o2 : CmpOp} (h : (wp Φ a).e ρ S (fun x S1 => (wp Φ b).e ρ S1 (fun y S2 => cmpW o1 x y S2 fun r =>
        if r = true then (wp Φ c).e ρ S2 (fun z S3 => cmpW o2 y z S3 fun r2 => Q (.bl r2) S3) X else Q (.bl false) S2) X) X) : (wp Φ (.chain o1 o2 a b c)).e ρ S Q X := h
theorem e_an (h : (wp Φ a).an ρ S Q X) : (wp Φ (.an a)).e ρ S Q X := h
theorem e_or (h : (wp Φ a).or ρ S Q X) : (wp Φ (.or a)).e ρ S Q X := h
theorem an_1 (h : (wp Φ a).e ρ S Q X) : (wp Φ (.cons a .nil)).an ρ S Q X := h
theorem an_2 (h : (wp Φ a).e ρ S (fun x S1 => ∃ b', truW S1 x = some b' ∧ if b' = true then (wp Φ (.cons b c)).an ρ S1 Q X else Q x S1) X) : (wp Φ (.cons a (.cons b c))).an ρ S Q X := h
theorem or_1 (h : (wp Φ a).e ρ S Q X) : (wp Φ (.cons a .nil)).or ρ S Q X := h
theorem or_2 (h : (wp Φ a).e ρ S (fun x S1 => ∃ b', truW S1 x = some b' ∧ if b' = true then Q x S1 else (wp Φ (.cons b c)).or ρ S1 Q X) X) : (wp Φ (.cons a (.cons b c))).or ρ S Q X := h
theorem e_ife (h : (wp Φ t).t ρ S (fun r S1 => if r = true then (wp Φ a).e ρ S1 Q X else (wp Φ b).e ρ S1 Q X) X) : (wp Φ (.ife t a b)).e ρ S Q X := h
theorem e_call {f : Nat} (h : (wp Φ a).es ρ S (fun ws S1 => Φ f ws S1 Q X) X) : (wp Φ (.call f a)).e ρ S Q X := h
theorem e_blt {o : Blt} (h : (wp Φ a).es ρ S (fun ws S1 => bltW live o ws S1 Q) X) : (wp Φ (.blt o live a)).e ρ S Q X := h
theorem e_mth {m : Mth} (h : (wp Φ a).e ρ S (fun x S1 => rcvW m x S1 ∧ (wp Φ b).es ρ S1 (fun ws S2 => mthW m x ws S2 Q) X) X) : (wp Φ (.mth m a b)).e ρ S Q X := h
theorem e_idx (h : (wp Φ a).e ρ S (fun x S1 => (wp Φ b).e ρ S1 (fun y S2 => idxW x y S2 Q) X) X) : (wp Φ (.idx a b)).e ρ S Q X := h
theorem e_slc {lo hi : CE} (h : (wp Φ a).e ρ S (fun x S1 => (wp Φ lo).o ρ S1 (fun l S2 => (wp Φ hi).o ρ S2 (fun u S3 => slcW live x l u S3 Q) X) X) X) : (wp Φ (.slc live a lo hi)).e ρ S Q X := h
theorem e_rev (h : (wp Φ a).e ρ S (fun x S1 => ∃ ws, rdL S1 x = some ws ∧ mkL live ws.reverse S1 Q) X) : (wp Φ (.rev live a)).e ρ S Q X := h
theorem e_tup (h : (wp Φ a).es ρ S (fun ws S1 => ws.length ≤ sizeLine ∧ Q (.tup ws) S1) X) : (wp Φ (.tup a)).e ρ S Q X := h
theorem e_lst (h : (wp Φ a).es ρ S (fun ws S1 => ws.length ≤ sizeLine ∧ mkL live ws S1 Q) X) : (wp Φ (.lst live a)).e ρ S Q X := h
theorem e_dnew {tk : Bool} (h : ∀ p, S p = none → Q (.ref p) (sup S p (if tk = true then .dt [] else .dk []))) : (wp Φ (.dnew tk)).e ρ S Q X := h
theorem e_dct (h : (wp Φ a).es ρ S (fun ws S1 => ∃ kvs, putsK [] ws = some kvs ∧ ws.length ≤ 30 ∧ ∀ p, S1 p = none → Q (.ref p) (sup S1 p (.dk kvs))) X) : (wp Φ (.dct a)).e ρ S Q X := h
theorem e_lc {own : List (Str × Nat)} (h : (wp Φ it).i ρ S (fun src items S1 =>
      wpLc src (wp Φ t).g (wp Φ c).c (fun ρ1 S2 Q1 => (wp Φ e).e ρ1 S2 Q1 XN) (wipeW ρ (own.map (·.2))) items [] S1 fun ws S2 => mkL live ws S2 Q) X) : (wp Φ (.lc live own t it c e)).e ρ S Q X := h
theorem e_lrg (h : (wp Φ a).e ρ S (fun x S1 => ∃ j, x = .int j ∧ 0 ≤ j ∧ j ≤ 16777216 ∧ mkL live (rngW 0 j.toNat) S1 Q) X) : (wp Φ (.lrg live a)).e ρ S Q X := h
theorem e_isi {k : Knd} (h : (wp Φ a).e ρ S (fun x S1 => ∃ k', kndW S1 x = some k' ∧ Q (.bl (subK k' k)) S1) X) : (wp Φ (.isi a k)).e ρ S Q X := h
section
variable {Q : List W → Sto → Prop}
theorem es_n (h : Q [] S) : (wp Φ .nil).es ρ S Q X := h
theorem es_c (h : (wp Φ a).e ρ S (fun w S1 => (wp Φ b).es ρ S1 (fun ws S2 => Q (w :: ws) S2) X) X) : (wp Φ (.cons a b)).es ρ S Q X := h
end
section
variable {Q : Option Int → Sto → Prop}
theorem o_nil (h : Q none S) : (wp Φ .nil).o ρ S Q X := h
theorem o_var {i : Nat} (h : (wp Φ (.var i)).e ρ S (intK Q) X) : (wp Φ (.var i)).o ρ S Q X := h
theorem o_cst {k : Const} (h : (wp Φ (.cst k)).e ρ S (intK Q) X) : (wp Φ (.cst k)).o ρ S Q X := h
theorem o_bin {op : Bop} (h : (wp Φ (.bin live op a b)).e ρ S (intK Q) X) : (wp Φ (.bin live op a b)).o ρ S Q X := h
theorem o_neg (h : (wp Φ (.neg a)).e ρ S (intK Q) X) : (wp Φ (.neg a)).o ρ S Q X := h
theorem o_blt {o : Blt} (h : (wp Φ (.blt o live a)).e ρ S (intK Q) X) : (wp Φ (.blt o live a)).o ρ S Q X := h
theorem o_call {f : Nat} (h : (wp Φ (.call f a)).e ρ S (intK Q) X) : (wp Φ (.call f a)).o ρ S Q X := h
theorem ik {i : Int} (h : Q (some i) S) : intK Q (.int i) S := ⟨i, rfl, h⟩
end
/-! ### tests -/
section
variable {Q : Bool → Sto → Prop}
theorem t_var {i : Nat} (h : (wp Φ (.var i)).e ρ S (truK Q) X) : (wp Φ (.var i)).t ρ S Q X := h
theorem t_call {f : Nat} (h : (wp Φ (.call f a)).e ρ S (truK Q) X) : (wp Φ (.call f a)).t ρ S Q X := h
theorem t_blt {o : Blt} (h : (wp Φ (.blt o live a)).e ρ S (truK Q) X) : (wp Φ (.blt o live a)).t ρ S Q X := h
theorem t_mth {m : Mth} (h : (wp Φ (.mth m a b)).e ρ S (truK Q) X) : (wp Φ (.mth m a b)).t ρ S Q X := h
theorem t_idx (h : (wp Φ (.idx a b)).e ρ S (truK Q) X) : (wp Φ (.idx a b)).t ρ S Q X := h
theorem t_isi {k : Knd} (h : (wp Φ (.isi a k)).e ρ S (truK Q) X) : (wp Φ (.isi a k)).t ρ S Q X := h
theorem t_cst {k : Const} (h : (wp Φ (.cst k)).e ρ S (truK Q) X) : (wp Φ (.cst k)).t ρ S Q X := h
theorem t_nt (h : (wp Φ a).t ρ S (fun b S1 => Q (!b) S1) X) : (wp Φ (.nt a)).t ρ S Q X := h
theorem t_cmp {op : CmpOp} (h : (wp Φ a).e ρ S (fun x S1 => (wp Φ b).e ρ S1 (fun y S2 => cmpW op x y S2 fun r => Q r S2) X) X) : (wp Φ (.cmp op a b)).t ρ S Q X := h
theorem t_chain {o1 o2 : CmpOp} (h : (wp Φ a).e ρ S (fun x S1 => (wp Φ b).e ρ S1 (fun y S2 => cmpW o1 x y S2 fun r =>
        if r = true then (wp Φ c).e ρ S2 (fun z S3 => cmpW o2 y z S3 fun r2 => Q r2 S3) X else Q false S2) X) X) : (wp Φ (.chain o1 o2 a b c)).t ρ S Q X := h
theorem t_an (h : (wp Φ a).ant ρ S Q X) : (wp Φ (.an a)).t ρ S Q X := h
theorem t_or (h : (wp Φ a).ort ρ S Q X) : (wp Φ (.or a)).t ρ S Q X := h
theorem ant_1 (h : (wp Φ a).t ρ S Q X) : (wp Φ (.cons a .nil)).ant ρ S Q X := h
theorem ant_2 (h : (wp Φ a).t ρ S (fun b' S1 => if b' = true then (wp Φ (.cons b c)).ant ρ S1 Q X else Q false S1) X) : (wp Φ (.cons a (.cons b c))).ant ρ S Q X := h
theorem ort_1 (h : (wp Φ a).t ρ S Q X) : (wp Φ (.cons a .nil)).ort ρ S Q X := h
theorem ort_2 (h : (wp Φ a).t ρ S (fun b' S1 => if b' = true then Q true S1 else (wp Φ (.cons b c)).ort ρ S1 Q X) X) : (wp Φ (.cons a (.cons b c))).ort ρ S Q X := h
theorem tr_bl {x : Bool} (h : Q x S) : truK Q (.bl x) S := ⟨x, rfl, h⟩
theorem tr_int {x : Int} (h : Q (x != 0) S) : truK Q (.int x) S := ⟨_, rfl, h⟩
theorem tr_lst {x : List W} (h : Q (!x.isEmpty) S) : truK Q (.lst x) S := ⟨_, rfl, h⟩
theorem tr_non (h : Q false S) : truK Q .non S := ⟨_, rfl, h⟩
theorem c_nil (h : Q true S) : (wp Φ .nil).c ρ S Q := h
theorem c_one (h : (wp Φ a).t ρ S Q XN) : (wp Φ (.cons a .nil)).c ρ S Q := h
end
/-! ### targets, walks -/
section
variable {Q : Env → Sto → Prop}
theorem g_tnm {i : Nat} {w : W} (h : Q (ρ.set i (some w)) S) : (wp Φ (.tnm i)).g w ρ S Q := h
theorem g_tup {ws : List W} (hl : ws.length = cntC t) (h : (wp Φ t).gs ws ρ S Q) : (wp Φ (.ttup t)).g (.tup ws) ρ S Q := ⟨ws, rfl, hl, h⟩
theorem g_sub {w : W} (h : (wp Φ a).e ρ S (fun x S1 => (wp Φ b).e ρ S1 (fun k S2 => setW x k w S2 fun S3 => Q ρ S3) XN) XN) : (wp Φ (.tsub a b)).g w ρ S Q := h
theorem gs_n (h : Q ρ S) : (wp Φ .nil).gs [] ρ S Q := ⟨rfl, h⟩
theorem gs_c {w : W} {ws : List W} (h : (wp Φ a).g w ρ S fun ρ1 S1 => (wp Φ b).gs ws ρ1 S1 Q) : (wp Φ (.cons a b)).gs (w :: ws) ρ S Q := ⟨w, ws, rfl, h⟩
end
section
variable {Q : (Sto → Prop) → List W → Sto → Prop}
theorem i_seq (h : (wp Φ a).e ρ S (fun x S1 => ∃ ws, rdI S1 x = some ws ∧ Q (srcW x ws) ws S1) X) : (wp Φ (.iseq a)).i ρ S Q X := h
theorem i_rng1 (h : (wp Φ a).e ρ S (fun x S1 => irngW [x] S1 Q) X) : (wp Φ (.irng1 a)).i ρ S Q X := h
theorem i_rng2 (h : (wp Φ a).e ρ S (fun x S1 => (wp Φ b).e ρ S1 (fun y S2 => irngW [x, y] S2 Q) X) X) : (wp Φ (.irng2 a b)).i ρ S Q X := h
theorem i_rng3 (h : (wp Φ a).e ρ S (fun x S1 => (wp Φ b).e ρ S1 (fun y S2 => (wp Φ c).e ρ S2 (fun z S3 => irng3W [x, y, z] S3 Q) X) X) X) : (wp Φ (.irng3 a b c)).i ρ S Q X := h
theorem i_zip (h : (wp Φ a).e ρ S (fun x S1 => (wp Φ b).e ρ S1 (fun y S2 => ∃ xs ys, rdL S2 x = some xs ∧ rdL S2 y = some ys ∧
        Q (fun S => rdL S x = some xs ∧ rdL S y = some ys) (zipW xs ys) S2) X) X) : (wp Φ (.izip a b)).i ρ S Q X := h
theorem i_enm (h : (wp Φ a).e ρ S (fun x S1 => ∃ xs, rdL S1 x = some xs ∧ Q (fun S => rdL S x = some xs) (enmW 0 xs) S1) X) : (wp Φ (.ienm a)).i ρ S Q X := h
theorem rg1 {n : Int} (h1 : -(2 ^ 62) ≤ n ∧ n < 2 ^ 62) (h : Q (fun _ => True) (rngW 0 n.toNat) S) : irngW [.int n] S Q := ⟨h1.1, h1.2, h⟩
theorem rg3 {i j k : Int} {n : Nat} (h1 : RgC i j k n) (h : Q (fun _ => True) ((List.range n).map fun (m : Nat) => W.int (i + m * k)) S) : irng3W [.int i, .int j, .int k] S Q := ⟨n, h1, h⟩
theorem rg2 {n m : Int} (h1 : -(2 ^ 62) ≤ n ∧ n < 2 ^ 62 ∧ -(2 ^ 62) ≤ m ∧ m < 2 ^ 62) (h : Q (fun _ => True) (rngW n (m - n).toNat) S) : irngW [.int n, .int m] S Q := ⟨h1, h⟩
end
/-! ### values -/
section
variable {i j : Int} {xs ys : List W}
theorem b_add (h : Q (.int (i + j)) S) : bopW live .add (.int i) (.int j) S Q := h
theorem b_sub (h : Q (.int (i - j)) S) : bopW live .sub (.int i) (.int j) S Q := h
theorem b_mul (h0 : CMulW i j) (h : Q (.int (i * j)) S) : bopW live .mul (.int i) (.int j) S Q := ⟨h0, h⟩
theorem b_div (h0 : CDivW i j) (h : Q (.int (i / j)) S) : bopW live .fdiv (.int i) (.int j) S Q := ⟨h0, h⟩
theorem b_mod (h0 : 0 < j) (h : Q (.int (i % j)) S) : bopW live .mod (.int i) (.int j) S Q := ⟨h0, h⟩
theorem b_pow (h0 : CPow i j) (h : Q (.int (i ^ j.toNat)) S) : bopW live .pow (.int i) (.int j) S Q := ⟨h0, h⟩
theorem b_cat {x y : W} (hx : rdL S x = some xs) (hy : rdL S y = some ys) (hl : xs.length + ys.length ≤ sizeLine) (h : mkL live (xs ++ ys) S Q) : bopW live .add x y S Q := by
  cases x <;> first | (cases hx; done) | (cases y <;> first | (cases hy; done) | exact ⟨xs, ys, hx, hy, hl, h⟩)
theorem b_rep {x : W} {k : Int} (hx : rdL S x = some xs) (hk : -(2 ^ 63) ≤ k ∧ k < 2 ^ 63) (hl : xs.length * k.toNat ≤ sizeLine) (h : mkL live (List.replicate k.toNat xs).flatten S Q) : bopW live .mul x (.int k) S Q := by
  cases x <;> first | (cases hx; done) | exact ⟨xs, hx, hk.1, hk.2, hl, h⟩
theorem c_lt {Q : Bool → Prop} (h : Q (decide (i < j))) : cmpW .Lt (.int i) (.int j) S Q := h
theorem c_le {Q : Bool → Prop} (h : Q (decide (i ≤ j))) : cmpW .LtE (.int i) (.int j) S Q := h
theorem c_gt {Q : Bool → Prop} (h : Q (decide (j < i))) : cmpW .Gt (.int i) (.int j) S Q := h
theorem c_ge {Q : Bool → Prop} (h : Q (decide (j ≤ i))) : cmpW .GtE (.int i) (.int j) S Q := h
end
theorem mk_f {ws : List W} (h : Q (.lst ws) S) : mkL false ws S Q := by
  unfold mkL
  rw [if_neg Bool.false_ne_true]
  exact h
theorem mk_t {ws : List W} (h : ∀ p, S p = none → Q (.ref p) (sup S p (.lst ws))) : mkL true ws S Q := by
  unfold mkL
  rw [if_pos rfl]
  exact h
end
theorem ite_d {p : Prop} [Decidable p] {A B : Prop} (h1 : p → A) (h2 : ¬p → B) : if decide p = true then A else B := by
  by_cases h : p
  · rw [if_pos (decide_eq_true h)]; exact h1 h
  · rw [if_neg (by simpa using h)]; exact h2 h
theorem ite_b {p : Bool} {A B : Prop} (h1 : p = true → A) (h2 : p = false → B) : if p = true then A else B := by
  cases p with
  | true => exact iteT (h1 rfl)
  | false => exact iteF (h2 rfl)
end MP

set_option Elab.async false
set_option linter.all false
set_option maxRecDepth 100000
set_option maxHeartbeats 4000000
/-! MP15: steps by value. -/
namespace MP
open PySem PySem.Spec PyProof.Rows L2

section
variable {S : Sto} {Q : WK} {live : Bool} {a : Addr} {ws xs : List W} {i : Int} {w v : W} {x y : W}
theorem ix_c (h : S a = some (.lst ws)) (hw : atI ws i = some w) (q : Q w S) : idxW (.ref a) (.int i) S Q := .inl ⟨ws, i, w, by rw [h]; rfl, rfl, hw, q⟩
theorem ix_l (hw : atI ws i = some w) (q : Q w S) : idxW (.lst ws) (.int i) S Q := ⟨w, hw, q⟩
theorem ix_t (hw : atI ws i = some w) (q : Q w S) : idxW (.tup ws) (.int i) S Q := ⟨w, hw, q⟩
theorem ix_d {kvs : List (Key × W)} {k : Key} (h : S a = some (.dk kvs)) (hk : keyW x = some k) (hw : getK kvs k = some w) (q : Q w S) : idxW (.ref a) x S Q :=
  .inr ⟨w, by show (S a).bind _ = _; rw [h]; show (keyW x).map _ = _; rw [hk]; show some (getK kvs k) = _; rw [hw], q⟩
theorem st_l {j : Nat} {Q : Sto → Prop} (h : S a = some (.lst ws)) (hj : ixN ws.length i = some j) (q : Q (sup S a (.lst (ws.set j v)))) : setW (.ref a) (.int i) v S Q := ⟨a, rfl, .inl ⟨ws, i, j, h, rfl, hj, q⟩⟩
theorem st_d {kvs : List (Key × W)} {k : Key} {Q : Sto → Prop} (h : S a = some (.dk kvs)) (hk : keyW x = some k) (hl : kvs.length < sizeLine) (q : Q (sup S a (.dk (setK kvs k v)))) : setW (.ref a) x v S Q := ⟨a, rfl, .inr (.inl ⟨kvs, k, h, hk, hl, q⟩)⟩
theorem ixN_nat {n j : Nat} (h : j < n) : ixN n (j : Int) = some j := by
  unfold ixN
  rw [if_pos (by omega), if_pos (by omega)]
  rfl
theorem ixN_int {n : Nat} {i : Int} (h0 : 0 ≤ i) (h : i < n) : ixN n i = some i.toNat := by
  unfold ixN
  rw [if_pos h0, if_pos h]
theorem atI_int {α : Type} {zs : List α} {i : Int} {z : α} (h0 : 0 ≤ i) (h : zs[i.toNat]? = some z) : atI zs i = some z := by
  have hl : i.toNat < zs.length := (List.getElem?_eq_some_iff.mp h).1
  unfold atI
  rw [ixN_int h0 (by omega)]
  exact h
/-- built-ins -/
theorem l_len {zs : List W} (h : rdQ S x = some zs) (hx : ∀ z, x ≠ .str z := by intro _ h; cases h) (q : Q (.int zs.length) S) : bltW live .len [x] S Q := by
  cases x <;> first | exact absurd rfl (hx _) | exact .inl ⟨zs, h, q⟩
theorem l_lenK {kvs : List (Key × W)} (h : S a = some (.dk kvs)) (q : Q (.int kvs.length) S) : bltW live .len [.ref a] S Q := .inr (.inl ⟨a, kvs, rfl, by rw [h]; rfl, q⟩)
theorem l_lenS {z : Str} (h : z.length ≤ sizeLine) (q : Q (.int z.length) S) : bltW live .len [.str z] S Q := ⟨h, q⟩
theorem l_abs (q : Q (.int (if i < 0 then -i else i)) S) : bltW live .abs [.int i] S Q := q
theorem l_max2 {j : Int} (q : ∀ m, m = max i j → Q (.int m) S) : bltW live .max2 [.int i, .int j] S Q := q _ (by
  by_cases h : j > i
  · rw [if_pos h]; omega
  · rw [if_neg h]; omega)
theorem l_min2 {j : Int} (q : ∀ m, m = min i j → Q (.int m) S) : bltW live .min2 [.int i, .int j] S Q := q _ (by
  by_cases h : j < i
  · rw [if_pos h]; omega
  · rw [if_neg h]; omega)
theorem ints_map : ∀ ns : List Int, intsW (ns.map W.int) = some ns
  | [] => rfl
  | n :: ns => by
    show (intsW (ns.map W.int)).map (n :: ·) = _
    rw [ints_map ns]; rfl
theorem bls_map : ∀ ns : List Bool, blsW (ns.map W.bl) = some ns
  | [] => rfl
  | n :: ns => by
    show (blsW (ns.map W.bl)).map (n :: ·) = _
    rw [bls_map ns]; rfl
theorem strs_map : ∀ ns : List Str, strsW (ns.map W.str) = some ns
  | [] => rfl
  | n :: ns => by
    show (strsW (ns.map W.str)).map (n :: ·) = _
    rw [strs_map ns]; rfl
theorem l_sum {ns : List Int} (h : rdL S x = some (ns.map W.int)) (q : Q (.int ns.sum) S) : bltW live .sum [x] S Q := ⟨_, ns, h, ints_map ns, q⟩
theorem l_minL {ns : List Int} (h : rdL S x = some (ns.map W.int)) (h0 : 0 < ns.length) (q : ∀ m, m ∈ ns → (∀ y, y ∈ ns → m ≤ y) → Q (.int m) S) : bltW live .minL [x] S Q := ⟨_, ns, h, ints_map ns, h0, q⟩
theorem l_maxL {ns : List Int} (h : rdL S x = some (ns.map W.int)) (h0 : 0 < ns.length) (q : ∀ m, m ∈ ns → (∀ y, y ∈ ns → y ≤ m) → Q (.int m) S) : bltW live .maxL [x] S Q := ⟨_, ns, h, ints_map ns, h0, q⟩
theorem l_all {ns : List Bool} (h : rdL S x = some (ns.map W.bl)) (q : Q (.bl (ns.all id)) S) : bltW live .all [x] S Q := ⟨_, ns, h, bls_map ns, q⟩
theorem l_any {ns : List Bool} (h : rdL S x = some (ns.map W.bl)) (q : Q (.bl (ns.any id)) S) : bltW live .any [x] S Q := ⟨_, ns, h, bls_map ns, q⟩
theorem l_intI (q : Q (.int i) S) : bltW live .int [.int i] S Q := q
theorem l_intB {b : Bool} (q : Q (.int (if b then 1 else 0)) S) : bltW live .int [.bl b] S Q := q
theorem l_list {zs : List W} (h : rdQ S x = some zs) (q : mkL live zs S Q) : bltW live .list [x] S Q := ⟨zs, h, q⟩
theorem l_tuple {zs : List W} (h : rdQ S x = some zs) (q : Q (.tup zs) S) : bltW live .tuple [x] S Q := ⟨zs, h, q⟩
/-- methods -/
theorem m_rcv {R : Prop} {m : Mth} (hm : m.T = "list" := by rfl) (h : S a = some (.lst ws)) (q : R) : rcvW m (.ref a) S ∧ R := by
  refine ⟨?_, q⟩
  cases m <;> first | exact ⟨ws, h⟩ | (cases hm; done) | exact absurd hm (by decide)
theorem m_app (h : S a = some (.lst ws)) (hl : ws.length < sizeLine) (q : Q .non (sup S a (.lst (ws ++ [y])))) : mthW .append (.ref a) [y] S Q := ⟨ws, h, hl, q⟩
theorem m_pop (h : S a = some (.lst ws)) (hw : ws[ws.length - 1]? = some w) (q : Q w (sup S a (.lst ws.dropLast))) : mthW .pop (.ref a) [] S Q := ⟨ws, w, h, hw, q⟩
theorem m_ext {zs : List W} (h : S a = some (.lst ws)) (hz : rdL S y = some zs) (hl : ws.length + zs.length ≤ sizeLine) (q : Q .non (sup S a (.lst (ws ++ zs)))) : mthW .extend (.ref a) [y] S Q := ⟨ws, zs, h, hz, hl, q⟩
/-- slices -/
theorem sl_f {zs : List W} {lo hi : Option Int} (q : Q (.lst (cutW zs lo hi)) S) : slcW false (.lst zs) lo hi S Q := ⟨zs, rfl, mk_f q⟩
theorem sl_r {zs : List W} {lo hi : Option Int} (h : S a = some (.lst zs)) (q : Q (.lst (cutW zs lo hi)) S) : slcW false (.ref a) lo hi S Q := ⟨zs, by show (S a).bind _ = _; rw [h]; rfl, mk_f q⟩
end
section
variable {Φ : Nat → Spec} {S : Sto} {Q : WK} {X : XC} {D : WEnds} {ρ : Env} {e : CE} {w : W}
theorem e_v0 (q : Q w S) : (wp Φ (.var 0)).e (some w :: ρ) S Q X := ⟨w, rfl, q⟩
theorem g_v0 {r0 : Option W} {Q : Env → Sto → Prop} (q : Q (some w :: ρ) S) : (wp Φ (.tnm 0)).g w (r0 :: ρ) S Q := q
theorem s_u0 {nx bk ct : Env → Sto → Prop} {rt : WK} {xc : XC} {sb : Bool} (h : (wp Φ e).e (some w :: ρ) S (fun y S1 => ∃ a b, w = .int a ∧ y = .int b ∧ nx (some (.int (augI sb a b)) :: ρ) S1) xc) : wps Φ (.aug 0 sb e) (some w :: ρ) S ⟨nx, rt, bk, ct, xc⟩ := ⟨w, rfl, h⟩
theorem e_v1 {r0 : Option W} (q : Q w S) : (wp Φ (.var 1)).e (r0 :: some w :: ρ) S Q X := ⟨w, rfl, q⟩
theorem g_v1 {r0 : Option W} {r1 : Option W} {Q : Env → Sto → Prop} (q : Q (r0 :: some w :: ρ) S) : (wp Φ (.tnm 1)).g w (r0 :: r1 :: ρ) S Q := q
theorem s_u1 {nx bk ct : Env → Sto → Prop} {rt : WK} {xc : XC} {r0 : Option W} {sb : Bool} (h : (wp Φ e).e (r0 :: some w :: ρ) S (fun y S1 => ∃ a b, w = .int a ∧ y = .int b ∧ nx (r0 :: some (.int (augI sb a b)) :: ρ) S1) xc) : wps Φ (.aug 1 sb e) (r0 :: some w :: ρ) S ⟨nx, rt, bk, ct, xc⟩ := ⟨w, rfl, h⟩
theorem e_v2 {r0 r1 : Option W} (q : Q w S) : (wp Φ (.var 2)).e (r0 :: r1 :: some w :: ρ) S Q X := ⟨w, rfl, q⟩
theorem g_v2 {r0 r1 : Option W} {r2 : Option W} {Q : Env → Sto → Prop} (q : Q (r0 :: r1 :: some w :: ρ) S) : (wp Φ (.tnm 2)).g w (r0 :: r1 :: r2 :: ρ) S Q := q
theorem s_u2 {nx bk ct : Env → Sto → Prop} {rt : WK} {xc : XC} {r0 r1 : Option W} {sb : Bool} (h : (wp Φ e).e (r0 :: r1 :: some w :: ρ) S (fun y S1 => ∃ a b, w = .int a ∧ y = .int b ∧ nx (r0 :: r1 :: some (.int (augI sb a b)) :: ρ) S1) xc) : wps Φ (.aug 2 sb e) (r0 :: r1 :: some w :: ρ) S ⟨nx, rt, bk, ct, xc⟩ := ⟨w, rfl, h⟩
theorem e_v3 {r0 r1 r2 : Option W} (q : Q w S) : (wp Φ (.var 3)).e (r0 :: r1 :: r2 :: some w :: ρ) S Q X := ⟨w, rfl, q⟩
theorem g_v3 {r0 r1 r2 : Option W} {r3 : Option W} {Q : Env → Sto → Prop} (q : Q (r0 :: r1 :: r2 :: some w :: ρ) S) : (wp Φ (.tnm 3)).g w (r0 :: r1 :: r2 :: r3 :: ρ) S Q := q
theorem s_u3 {nx bk ct : Env → Sto → Prop} {rt : WK} {xc : XC} {r0 r1 r2 : Option W} {sb : Bool} (h : (wp Φ e).e (r0 :: r1 :: r2 :: some w :: ρ) S (fun y S1 => ∃ a b, w = .int a ∧ y = .int b ∧ nx (r0 :: r1 :: r2 :: some (.int (augI sb a b)) :: ρ) S1) xc) : wps Φ (.aug 3 sb e) (r0 :: r1 :: r2 :: some w :: ρ) S ⟨nx, rt, bk, ct, xc⟩ := ⟨w, rfl, h⟩
theorem e_v4 {r0 r1 r2 r3 : Option W} (q : Q w S) : (wp Φ (.var 4)).e (r0 :: r1 :: r2 :: r3 :: some w :: ρ) S Q X := ⟨w, rfl, q⟩
theorem g_v4 {r0 r1 r2 r3 : Option W} {r4 : Option W} {Q : Env → Sto → Prop} (q : Q (r0 :: r1 :: r2 :: r3 :: some w :: ρ) S) : (wp Φ (.tnm 4)).g w (r0 :: r1 :: r2 :: r3 :: r4 :: ρ) S Q := q
theorem s_u4 {nx bk ct : Env → Sto → Prop} {rt : WK} {xc : XC} {r0 r1 r2 r3 : Option W} {sb : Bool} (h : (wp Φ e).e (r0 :: r1 :: r2 :: r3 :: some w :: ρ) S (fun y S1 => ∃ a b, w = .int a ∧ y = .int b ∧ nx (r0 :: r1 :: r2 :: r3 :: some (.int (augI sb a b)) :: ρ) S1) xc) : wps Φ (.aug 4 sb e) (r0 :: r1 :: r2 :: r3 :: some w :: ρ) S ⟨nx, rt, bk, ct, xc⟩ := ⟨w, rfl, h⟩
theorem e_v5 {r0 r1 r2 r3 r4 : Option W} (q : Q w S) : (wp Φ (.var 5)).e (r0 :: r1 :: r2 :: r3 :: r4 :: some w :: ρ) S Q X := ⟨w, rfl, q⟩
theorem g_v5 {r0 r1 r2 r3 r4 : Option W} {r5 : Option W} {Q : Env → Sto → Prop} (q : Q (r0 :: r1 :: r2 :: r3 :: r4 :: some w :: ρ) S) : (wp Φ (.tnm 5)).g w (r0 :: r1 :: r2 :: r3 :: r4 :: r5 :: ρ) S Q := q
theorem s_u5 {nx bk ct : Env → Sto → Prop} {rt : WK} {xc : XC} {r0 r1 r2 r3 r4 : Option W} {sb : Bool} (h : (wp Φ e).e (r0 :: r1 :: r2 :: r3 :: r4 :: some w :: ρ) S (fun y S1 => ∃ a b, w = .int a ∧ y = .int b ∧ nx (r0 :: r1 :: r2 :: r3 :: r4 :: some (.int (augI sb a b)) :: ρ) S1) xc) : wps Φ (.aug 5 sb e) (r0 :: r1 :: r2 :: r3 :: r4 :: some w :: ρ) S ⟨nx, rt, bk, ct, xc⟩ := ⟨w, rfl, h⟩
theorem e_v6 {r0 r1 r2 r3 r4 r5 : Option W} (q : Q w S) : (wp Φ (.var 6)).e (r0 :: r1 :: r2 :: r3 :: r4 :: r5 :: some w :: ρ) S Q X := ⟨w, rfl, q⟩
theorem g_v6 {r0 r1 r2 r3 r4 r5 : Option W} {r6 : Option W} {Q : Env → Sto → Prop} (q : Q (r0 :: r1 :: r2 :: r3 :: r4 :: r5 :: some w :: ρ) S) : (wp Φ (.tnm 6)).g w (r0 :: r1 :: r2 :: r3 :: r4 :: r5 :: r6 :: ρ) S Q := q
theorem s_u6 {nx bk ct : Env → Sto → Prop} {rt : WK} {xc : XC} {r0 r1 r2 r3 r4 r5 : Option W} {sb : Bool} (h : (wp Φ e).e (r0 :: r1 :: r2 :: r3 :: r4 :: r5 :: some w :: ρ) S (fun y S1 => ∃ a b, w = .int a ∧ y = .int b ∧ nx (r0 :: r1 :: r2 :: r3 :: r4 :: r5 :: some (.int (augI sb a b)) :: ρ) S1) xc) : wps Φ (.aug 6 sb e) (r0 :: r1 :: r2 :: r3 :: r4 :: r5 :: some w :: ρ) S ⟨nx, rt, bk, ct, xc⟩ := ⟨w, rfl, h⟩
theorem e_v7 {r0 r1 r2 r3 r4 r5 r6 : Option W} (q : Q w S) : (wp Φ (.var 7)).e (r0 :: r1 :: r2 :: r3 :: r4 :: r5 :: r6 :: some w :: ρ) S Q X := ⟨w, rfl, q⟩
theorem g_v7 {r0 r1 r2 r3 r4 r5 r6 : Option W} {r7 : Option W} {Q : Env → Sto → Prop} (q : Q (r0 :: r1 :: r2 :: r3 :: r4 :: r5 :: r6 :: some w :: ρ) S) : (wp Φ (.tnm 7)).g w (r0 :: r1 :: r2 :: r3 :: r4 :: r5 :: r6 :: r7 :: ρ) S Q := q
theorem s_u7 {nx bk ct : Env → Sto → Prop} {rt : WK} {xc : XC} {r0 r1 r2 r3 r4 r5 r6 : Option W} {sb : Bool} (h : (wp Φ e).e (r0 :: r1 :: r2 :: r3 :: r4 :: r5 :: r6 :: some w :: ρ) S (fun y S1 => ∃ a b, w = .int a ∧ y = .int b ∧ nx (r0 :: r1 :: r2 :: r3 :: r4 :: r5 :: r6 :: some (.int (augI sb a b)) :: ρ) S1) xc) : wps Φ (.aug 7 sb e) (r0 :: r1 :: r2 :: r3 :: r4 :: r5 :: r6 :: some w :: ρ) S ⟨nx, rt, bk, ct, xc⟩ := ⟨w, rfl, h⟩
theorem e_v8 {r0 r1 r2 r3 r4 r5 r6 r7 : Option W} (q : Q w S) : (wp Φ (.var 8)).e (r0 :: r1 :: r2 :: r3 :: r4 :: r5 :: r6 :: r7 :: some w :: ρ) S Q X := ⟨w, rfl, q⟩
theorem g_v8 {r0 r1 r2 r3 r4 r5 r6 r7 : Option W} {r8 : Option W} {Q : Env → Sto → Prop} (q : Q (r0 :: r1 :: r2 :: r3 :: r4 :: r5 :: r6 :: r7 :: some w :: ρ) S) : (wp Φ (.tnm 8)).g w (r0 :: r1 :: r2 :: r3 :: r4 :: r5 :: r6 :: r7 :: r8 :: ρ) S Q := q
theorem s_u8 {nx bk ct : Env → Sto → Prop} {rt : WK} {xc : XC} {r0 r1 r2 r3 r4 r5 r6 r7 : Option W} {sb : Bool} (h : (wp Φ e).e (r0 :: r1 :: r2 :: r3 :: r4 :: r5 :: r6 :: r7 :: some w :: ρ) S (fun y S1 => ∃ a b, w = .int a ∧ y = .int b ∧ nx (r0 :: r1 :: r2 :: r3 :: r4 :: r5 :: r6 :: r7 :: some (.int (augI sb a b)) :: ρ) S1) xc) : wps Φ (.aug 8 sb e) (r0 :: r1 :: r2 :: r3 :: r4 :: r5 :: r6 :: r7 :: some w :: ρ) S ⟨nx, rt, bk, ct, xc⟩ := ⟨w, rfl, h⟩
theorem e_v9 {r0 r1 r2 r3 r4 r5 r6 r7 r8 : Option W} (q : Q w S) : (wp Φ (.var 9)).e (r0 :: r1 :: r2 :: r3 :: r4 :: r5 :: r6 :: r7 :: r8 :: some w :: ρ) S Q X := ⟨w, rfl, q⟩
theorem g_v9 {r0 r1 r2 r3 r4 r5 r6 r7 r8 : Option W} {r9 : Option W} {Q : Env → Sto → Prop} (q : Q (r0 :: r1 :: r2 :: r3 :: r4 :: r5 :: r6 :: r7 :: r8 :: some w :: ρ) S) : (wp Φ (.tnm 9)).g w (r0 :: r1 :: r2 :: r3 :: r4 :: r5 :: r6 :: r7 :: r8 :: r9 :: ρ) S Q := q
theorem s_u9 {nx bk ct : Env → Sto → Prop} {rt : WK} {xc : XC} {r0 r1 r2 r3 r4 r5 r6 r7 r8 : Option W} {sb : Bool} (h : (wp Φ e).e (r0 :: r1 :: r2 :: r3 :: r4 :: r5 :: r6 :: r7 :: r8 :: some w :: ρ) S (fun y S1 => ∃ a b, w = .int a ∧ y = .int b ∧ nx (r0 :: r1 :: r2 :: r3 :: r4 :: r5 :: r6 :: r7 :: r8 :: some (.int (augI sb a b)) :: ρ) S1) xc) : wps Φ (.aug 9 sb e) (r0 :: r1 :: r2 :: r3 :: r4 :: r5 :: r6 :: r7 :: r8 :: some w :: ρ) S ⟨nx, rt, bk, ct, xc⟩ := ⟨w, rfl, h⟩
theorem e_v10 {r0 r1 r2 r3 r4 r5 r6 r7 r8 r9 : Option W} (q : Q w S) : (wp Φ (.var 10)).e (r0 :: r1 :: r2 :: r3 :: r4 :: r5 :: r6 :: r7 :: r8 :: r9 :: some w :: ρ) S Q X := ⟨w, rfl, q⟩
theorem g_v10 {r0 r1 r2 r3 r4 r5 r6 r7 r8 r9 : Option W} {r10 : Option W} {Q : Env → Sto → Prop} (q : Q (r0 :: r1 :: r2 :: r3 :: r4 :: r5 :: r6 :: r7 :: r8 :: r9 :: some w :: ρ) S) : (wp Φ (.tnm 10)).g w (r0 :: r1 :: r2 :: r3 :: r4 :: r5 :: r6 :: r7 :: r8 :: r9 :: r10 :: ρ) S Q := q
theorem s_u10 {nx bk ct : Env → Sto → Prop} {rt : WK} {xc : XC} {r0 r1 r2 r3 r4 r5 r6 r7 r8 r9 : Option W} {sb : Bool} (h : (wp Φ e).e (r0 :: r1 :: r2 :: r3 :: r4 :: r5 :: r6 :: r7 :: r8 :: r9 :: some w :: ρ) S (fun y S1 => ∃ a b, w = .int a ∧ y = .int b ∧ nx (r0 :: r1 :: r2 :: r3 :: r4 :: r5 :: r6 :: r7 :: r8 :: r9 :: some (.int (augI sb a b)) :: ρ) S1) xc) : wps Φ (.aug 10 sb e) (r0 :: r1 :: r2 :: r3 :: r4 :: r5 :: r6 :: r7 :: r8 :: r9 :: some w :: ρ) S ⟨nx, rt, bk, ct, xc⟩ := ⟨w, rfl, h⟩
theorem e_v11 {r0 r1 r2 r3 r4 r5 r6 r7 r8 r9 r10 : Option W} (q : Q w S) : (wp Φ (.var 11)).e (r0 :: r1 :: r2 :: r3 :: r4 :: r5 :: r6 :: r7 :: r8 :: r9 :: r10 :: some w :: ρ) S Q X := ⟨w, rfl, q⟩
theorem g_v11 {r0 r1 r2 r3 r4 r5 r6 r7 r8 r9 r10 : Option W} {r11 : Option W} {Q : Env → Sto → Prop} (q : Q (r0 :: r1 :: r2 :: r3 :: r4 :: r5 :: r6 :: r7 :: r8 :: r9 :: r10 :: some w :: ρ) S) : (wp Φ (.tnm 11)).g w (r0 :: r1 :: r2 :: r3 :: r4 :: r5 :: r6 :: r7 :: r8 :: r9 :: r10 :: r11 :: ρ) S Q := q
theorem s_u11 {nx bk ct : Env → Sto → Prop} {rt : WK} {xc : XC} {r0 r1 r2 r3 r4 r5 r6 r7 r8 r9 r10 : Option W} {sb : Bool} (h : (wp Φ e).e (r0 :: r1 :: r2 :: r3 :: r4 :: r5 :: r6 :: r7 :: r8 :: r9 :: r10 :: some w :: ρ) S (fun y S1 => ∃ a b, w = .int a ∧ y = .int b ∧ nx (r0 :: r1 :: r2 :: r3 :: r4 :: r5 :: r6 :: r7 :: r8 :: r9 :: r10 :: some (.int (augI sb a b)) :: ρ) S1) xc) : wps Φ (.aug 11 sb e) (r0 :: r1 :: r2 :: r3 :: r4 :: r5 :: r6 :: r7 :: r8 :: r9 :: r10 :: some w :: ρ) S ⟨nx, rt, bk, ct, xc⟩ := ⟨w, rfl, h⟩
theorem e_v12 {r0 r1 r2 r3 r4 r5 r6 r7 r8 r9 r10 r11 : Option W} (q : Q w S) : (wp Φ (.var 12)).e (r0 :: r1 :: r2 :: r3 :: r4 :: r5 :: r6 :: r7 :: r8 :: r9 :: r10 :: r11 :: some w :: ρ) S Q X := ⟨w, rfl, q⟩
theorem g_v12 {r0 r1 r2 r3 r4 r5 r6 r7 r8 r9 r10 r11 : Option W} {r12 : Option W} {Q : Env → Sto → Prop} (q : Q (r0 :: r1 :: r2 :: r3 :: r4 :: r5 :: r6 :: r7 :: r8 :: r9 :: r10 :: r11 :: some w :: ρ) S) : (wp Φ (.tnm 12)).g w (r0 :: r1 :: r2 :: r3 :: r4 :: r5 :: r6 :: r7 :: r8 :: r9 :: r10 :: r11 :: r12 :: ρ) S Q := q
theorem s_u12 {nx bk ct : Env → Sto → Prop} {rt : WK} {xc : XC} {r0 r1 r2 r3 r4 r5 r6 r7 r8 r9 r10 r11 : Option W} {sb : Bool} (h : (wp Φ e).e (r0 :: r1 :: r2 :: r3 :: r4 :: r5 :: r6 :: r7 :: r8 :: r9 :: r10 :: r11 :: some w :: ρ) S (fun y S1 => ∃ a b, w = .int a ∧ y = .int b ∧ nx (r0 :: r1 :: r2 :: r3 :: r4 :: r5 :: r6 :: r7 :: r8 :: r9 :: r10 :: r11 :: some (.int (augI sb a b)) :: ρ) S1) xc) : wps Φ (.aug 12 sb e) (r0 :: r1 :: r2 :: r3 :: r4 :: r5 :: r6 :: r7 :: r8 :: r9 :: r10 :: r11 :: some w :: ρ) S ⟨nx, rt, bk, ct, xc⟩ := ⟨w, rfl, h⟩
theorem e_v13 {r0 r1 r2 r3 r4 r5 r6 r7 r8 r9 r10 r11 r12 : Option W} (q : Q w S) : (wp Φ (.var 13)).e (r0 :: r1 :: r2 :: r3 :: r4 :: r5 :: r6 :: r7 :: r8 :: r9 :: r10 :: r11 :: r12 :: some w :: ρ) S Q X := ⟨w, rfl, q⟩
theorem g_v13 {r0 r1 r2 r3 r4 r5 r6 r7 r8 r9 r10 r11 r12 : Option W} {r13 : Option W} {Q : Env → Sto → Prop} (q : Q (r0 :: r1 :: r2 :: r3 :: r4 :: r5 :: r6 :: r7 :: r8 :: r9 :: r10 :: r11 :: r12 :: some w :: ρ) S) : (wp Φ (.tnm 13)).g w (r0 :: r1 :: r2 :: r3 :: r4 :: r5 :: r6 :: r7 :: r8 :: r9 :: r10 :: r11 :: r12 :: r13 :: ρ) S Q := q
theorem s_u13 {nx bk ct : Env → Sto → Prop} {rt : WK} {xc : XC} {r0 r1 r2 r3 r4 r5 r6 r7 r8 r9 r10 r11 r12 : Option W} {sb : Bool} (h : (wp Φ e).e (r0 :: r1 :: r2 :: r3 :: r4 :: r5 :: r6 :: r7 :: r8 :: r9 :: r10 :: r11 :: r12 :: some w :: ρ) S (fun y S1 => ∃ a b, w = .int a ∧ y = .int b ∧ nx (r0 :: r1 :: r2 :: r3 :: r4 :: r5 :: r6 :: r7 :: r8 :: r9 :: r10 :: r11 :: r12 :: some (.int (augI sb a b)) :: ρ) S1) xc) : wps Φ (.aug 13 sb e) (r0 :: r1 :: r2 :: r3 :: r4 :: r5 :: r6 :: r7 :: r8 :: r9 :: r10 :: r11 :: r12 :: some w :: ρ) S ⟨nx, rt, bk, ct, xc⟩ := ⟨w, rfl, h⟩
theorem e_v14 {r0 r1 r2 r3 r4 r5 r6 r7 r8 r9 r10 r11 r12 r13 : Option W} (q : Q w S) : (wp Φ (.var 14)).e (r0 :: r1 :: r2 :: r3 :: r4 :: r5 :: r6 :: r7 :: r8 :: r9 :: r10 :: r11 :: r12 :: r13 :: some w :: ρ) S Q X := ⟨w, rfl, q⟩
theorem g_v14 {r0 r1 r2 r3 r4 r5 r6 r7 r8 r9 r10 r11 r12 r13 : Option W} {r14 : Option W} {Q : Env → Sto → Prop} (q : Q (r0 :: r1 :: r2 :: r3 :: r4 :: r5 :: r6 :: r7 :: r8 :: r9 :: r10 :: r11 :: r12 :: r13 :: some w :: ρ) S) : (wp Φ (.tnm 14)).g w (r0 :: r1 :: r2 :: r3 :: r4 :: r5 :: r6 :: r7 :: r8 :: r9 :: r10 :: r11 :: r12 :: r13 :: r14 :: ρ) S Q := q
theorem s_u14 {nx bk ct : Env → Sto → Prop} {rt : WK} {xc : XC} {r0 r1 r2 r3 r4 r5 r6 r7 r8 r9 r10 r11 r12 r13 : Option W} {sb : Bool} (h : (wp Φ e).e (r0 :: r1 :: r2 :: r3 :: r4 :: r5 :: r6 :: r7 :: r8 :: r9 :: r10 :: r11 :: r12 :: r13 :: some w :: ρ) S (fun y S1 => ∃ a b, w = .int a ∧ y = .int b ∧ nx (r0 :: r1 :: r2 :: r3 :: r4 :: r5 :: r6 :: r7 :: r8 :: r9 :: r10 :: r11 :: r12 :: r13 :: some (.int (augI sb a b)) :: ρ) S1) xc) : wps Φ (.aug 14 sb e) (r0 :: r1 :: r2 :: r3 :: r4 :: r5 :: r6 :: r7 :: r8 :: r9 :: r10 :: r11 :: r12 :: r13 :: some w :: ρ) S ⟨nx, rt, bk, ct, xc⟩ := ⟨w, rfl, h⟩
theorem e_v15 {r0 r1 r2 r3 r4 r5 r6 r7 r8 r9 r10 r11 r12 r13 r14 : Option W} (q : Q w S) : (wp Φ (.var 15)).e (r0 :: r1 :: r2 :: r3 :: r4 :: r5 :: r6 :: r7 :: r8 :: r9 :: r10 :: r11 :: r12 :: r13 :: r14 :: some w :: ρ) S Q X := ⟨w, rfl, q⟩
theorem g_v15 {r0 r1 r2 r3 r4 r5 r6 r7 r8 r9 r10 r11 r12 r13 r14 : Option W} {r15 : Option W} {Q : Env → Sto → Prop} (q : Q (r0 :: r1 :: r2 :: r3 :: r4 :: r5 :: r6 :: r7 :: r8 :: r9 :: r10 :: r11 :: r12 :: r13 :: r14 :: some w :: ρ) S) : (wp Φ (.tnm 15)).g w (r0 :: r1 :: r2 :: r3 :: r4 :: r5 :: r6 :: r7 :: r8 :: r9 :: r10 :: r11 :: r12 :: r13 :: r14 :: r15 :: ρ) S Q := q
theorem s_u15 {nx bk ct : Env → Sto → Prop} {rt : WK} {xc : XC} {r0 r1 r2 r3 r4 r5 r6 r7 r8 r9 r10 r11 r12 r13 r14 : Option W} {sb : Bool} (h : (wp Φ e).e (r0 :: r1 :: r2 :: r3 :: r4 :: r5 :: r6 :: r7 :: r8 :: r9 :: r10 :: r11 :: r12 :: r13 :: r14 :: some w :: ρ) S (fun y S1 => ∃ a b, w = .int a ∧ y = .int b ∧ nx (r0 :: r1 :: r2 :: r3 :: r4 :: r5 :: r6 :: r7 :: r8 :: r9 :: r10 :: r11 :: r12 :: r13 :: r14 :: some (.int (augI sb a b)) :: ρ) S1) xc) : wps Φ (.aug 15 sb e) (r0 :: r1 :: r2 :: r3 :: r4 :: r5 :: r6 :: r7 :: r8 :: r9 :: r10 :: r11 :: r12 :: r13 :: r14 :: some w :: ρ) S ⟨nx, rt, bk, ct, xc⟩ := ⟨w, rfl, h⟩
theorem e_v16 {r0 r1 r2 r3 r4 r5 r6 r7 r8 r9 r10 r11 r12 r13 r14 r15 : Option W} (q : Q w S) : (wp Φ (.var 16)).e (r0 :: r1 :: r2 :: r3 :: r4 :: r5 :: r6 :: r7 :: r8 :: r9 :: r10 :: r11 :: r12 :: r13 :: r14 :: r15 :: some w :: ρ) S Q X := ⟨w, rfl, q⟩
theorem g_v16 {r0 r1 r2 r3 r4 r5 r6 r7 r8 r9 r10 r11 r12 r13 r14 r15 : Option W} {r16 : Option W} {Q : Env → Sto → Prop} (q : Q (r0 :: r1 :: r2 :: r3 :: r4 :: r5 :: r6 :: r7 :: r8 :: r9 :: r10 :: r11 :: r12 :: r13 :: r14 :: r15 :: some w :: ρ) S) : (wp Φ (.tnm 16)).g w (r0 :: r1 :: r2 :: r3 :: r4 :: r5 :: r6 :: r7 :: r8 :: r9 :: r10 :: r11 :: r12 :: r13 :: r14 :: r15 :: r16 :: ρ) S Q := q
theorem s_u16 {nx bk ct : Env → Sto → Prop} {rt : WK} {xc : XC} {r0 r1 r2 r3 r4 r5 r6 r7 r8 r9 r10 r11 r12 r13 r14 r15 : Option W} {sb : Bool} (h : (wp Φ e).e (r0 :: r1 :: r2 :: r3 :: r4 :: r5 :: r6 :: r7 :: r8 :: r9 :: r10 :: r11 :: r12 :: r13 :: r14 :: r15 :: some w :: ρ) S (fun y S1 => ∃ a b, w = .int a ∧ y = .int b ∧ nx (r0 :: r1 :: r2 :: r3 :: r4 :: r5 :: r6 :: r7 :: r8 :: r9 :: r10 :: r11 :: r12 :: r13 :: r14 :: r15 :: some (.int (augI sb a b)) :: ρ) S1) xc) : wps Φ (.aug 16 sb e) (r0 :: r1 :: r2 :: r3 :: r4 :: r5 :: r6 :: r7 :: r8 :: r9 :: r10 :: r11 :: r12 :: r13 :: r14 :: r15 :: some w :: ρ) S ⟨nx, rt, bk, ct, xc⟩ := ⟨w, rfl, h⟩
theorem e_v17 {r0 r1 r2 r3 r4 r5 r6 r7 r8 r9 r10 r11 r12 r13 r14 r15 r16 : Option W} (q : Q w S) : (wp Φ (.var 17)).e (r0 :: r1 :: r2 :: r3 :: r4 :: r5 :: r6 :: r7 :: r8 :: r9 :: r10 :: r11 :: r12 :: r13 :: r14 :: r15 :: r16 :: some w :: ρ) S Q X := ⟨w, rfl, q⟩
theorem g_v17 {r0 r1 r2 r3 r4 r5 r6 r7 r8 r9 r10 r11 r12 r13 r14 r15 r16 : Option W} {r17 : Option W} {Q : Env → Sto → Prop} (q : Q (r0 :: r1 :: r2 :: r3 :: r4 :: r5 :: r6 :: r7 :: r8 :: r9 :: r10 :: r11 :: r12 :: r13 :: r14 :: r15 :: r16 :: some w :: ρ) S) : (wp Φ (.tnm 17)).g w (r0 :: r1 :: r2 :: r3 :: r4 :: r5 :: r6 :: r7 :: r8 :: r9 :: r10 :: r11 :: r12 :: r13 :: r14 :: r15 :: r16 :: r17 :: ρ) S Q := q
theorem s_u17 {nx bk ct : Env → Sto → Prop} {rt : WK} {xc : XC} {r0 r1 r2 r3 r4 r5 r6 r7 r8 r9 r10 r11 r12 r13 r14 r15 r16 : Option W} {sb : Bool} (h : (wp Φ e).e (r0 :: r1 :: r2 :: r3 :: r4 :: r5 :: r6 :: r7 :: r8 :: r9 :: r10 :: r11 :: r12 :: r13 :: r14 :: r15 :: r16 :: some w :: ρ) S (fun y S1 => ∃ a b, w = .int a ∧ y = .int b ∧ nx (r0 :: r1 :: r2 :: r3 :: r4 :: r5 :: r6 :: r7 :: r8 :: r9 :: r10 :: r11 :: r12 :: r13 :: r14 :: r15 :: r16 :: some (.int (augI sb a b)) :: ρ) S1) xc) : wps Φ (.aug 17 sb e) (r0 :: r1 :: r2 :: r3 :: r4 :: r5 :: r6 :: r7 :: r8 :: r9 :: r10 :: r11 :: r12 :: r13 :: r14 :: r15 :: r16 :: some w :: ρ) S ⟨nx, rt, bk, ct, xc⟩ := ⟨w, rfl, h⟩
theorem e_v18 {r0 r1 r2 r3 r4 r5 r6 r7 r8 r9 r10 r11 r12 r13 r14 r15 r16 r17 : Option W} (q : Q w S) : (wp Φ (.var 18)).e (r0 :: r1 :: r2 :: r3 :: r4 :: r5 :: r6 :: r7 :: r8 :: r9 :: r10 :: r11 :: r12 :: r13 :: r14 :: r15 :: r16 :: r17 :: some w :: ρ) S Q X := ⟨w, rfl, q⟩
theorem g_v18 {r0 r1 r2 r3 r4 r5 r6 r7 r8 r9 r10 r11 r12 r13 r14 r15 r16 r17 : Option W} {r18 : Option W} {Q : Env → Sto → Prop} (q : Q (r0 :: r1 :: r2 :: r3 :: r4 :: r5 :: r6 :: r7 :: r8 :: r9 :: r10 :: r11 :: r12 :: r13 :: r14 :: r15 :: r16 :: r17 :: some w :: ρ) S) : (wp Φ (.tnm 18)).g w (r0 :: r1 :: r2 :: r3 :: r4 :: r5 :: r6 :: r7 :: r8 :: r9 :: r10 :: r11 :: r12 :: r13 :: r14 :: r15 :: r16 :: r17 :: r18 :: ρ) S Q := q
theorem s_u18 {nx bk ct : Env → Sto → Prop} {rt : WK} {xc : XC} {r0 r1 r2 r3 r4 r5 r6 r7 r8 r9 r10 r11 r12 r13 r14 r15 r16 r17 : Option W} {sb : Bool} (h : (wp Φ e).e (r0 :: r1 :: r2 :: r3 :: r4 :: r5 :: r6 :: r7 :: r8 :: r9 :: r10 :: r11 :: r12 :: r13 :: r14 :: r15 :: r16 :: r17 :: some w :: ρ) S (fun y S1 => ∃ a b, w = .int a ∧ y = .int b ∧ nx (r0 :: r1 :: r2 :: r3 :: r4 :: r5 :: r6 :: r7 :: r8 :: r9 :: r10 :: r11 :: r12 :: r13 :: r14 :: r15 :: r16 :: r17 :: some (.int (augI sb a b)) :: ρ) S1) xc) : wps Φ (.aug 18 sb e) (r0 :: r1 :: r2 :: r3 :: r4 :: r5 :: r6 :: r7 :: r8 :: r9 :: r10 :: r11 :: r12 :: r13 :: r14 :: r15 :: r16 :: r17 :: some w :: ρ) S ⟨nx, rt, bk, ct, xc⟩ := ⟨w, rfl, h⟩
theorem e_v19 {r0 r1 r2 r3 r4 r5 r6 r7 r8 r9 r10 r11 r12 r13 r14 r15 r16 r17 r18 : Option W} (q : Q w S) : (wp Φ (.var 19)).e (r0 :: r1 :: r2 :: r3 :: r4 :: r5 :: r6 :: r7 :: r8 :: r9 :: r10 :: r11 :: r12 :: r13 :: r14 :: r15 :: r16 :: r17 :: r18 :: some w :: ρ) S Q X := ⟨w, rfl, q⟩
theorem g_v19 {r0 r1 r2 r3 r4 r5 r6 r7 r8 r9 r10 r11 r12 r13 r14 r15 r16 r17 r18 : Option W} {r19 : Option W} {Q : Env → Sto → Prop} (q : Q (r0 :: r1 :: r2 :: r3 :: r4 :: r5 :: r6 :: r7 :: r8 :: r9 :: r10 :: r11 :: r12 :: r13 :: r14 :: r15 :: r16 :: r17 :: r18 :: some w :: ρ) S) : (wp Φ (.tnm 19)).g w (r0 :: r1 :: r2 :: r3 :: r4 :: r5 :: r6 :: r7 :: r8 :: r9 :: r10 :: r11 :: r12 :: r13 :: r14 :: r15 :: r16 :: r17 :: r18 :: r19 :: ρ) S Q := q
theorem s_u19 {nx bk ct : Env → Sto → Prop} {rt : WK} {xc : XC} {r0 r1 r2 r3 r4 r5 r6 r7 r8 r9 r10 r11 r12 r13 r14 r15 r16 r17 r18 : Option W} {sb : Bool} (h : (wp Φ e).e (r0 :: r1 :: r2 :: r3 :: r4 :: r5 :: r6 :: r7 :: r8 :: r9 :: r10 :: r11 :: r12 :: r13 :: r14 :: r15 :: r16 :: r17 :: r18 :: some w :: ρ) S (fun y S1 => ∃ a b, w = .int a ∧ y = .int b ∧ nx (r0 :: r1 :: r2 :: r3 :: r4 :: r5 :: r6 :: r7 :: r8 :: r9 :: r10 :: r11 :: r12 :: r13 :: r14 :: r15 :: r16 :: r17 :: r18 :: some (.int (augI sb a b)) :: ρ) S1) xc) : wps Φ (.aug 19 sb e) (r0 :: r1 :: r2 :: r3 :: r4 :: r5 :: r6 :: r7 :: r8 :: r9 :: r10 :: r11 :: r12 :: r13 :: r14 :: r15 :: r16 :: r17 :: r18 :: some w :: ρ) S ⟨nx, rt, bk, ct, xc⟩ := ⟨w, rfl, h⟩
theorem s_gf0 {nx bk ct : Env → Sto → Prop} {rt : WK} {xc : XC} {p : Addr} {ws : List W} (h1 : S p = some (.lst ws)) (h : nx (some (.lst ws) :: ρ) (sdel S p)) : wps Φ (.gfrz 0) (some (.ref p) :: ρ) S ⟨nx, rt, bk, ct, xc⟩ := ⟨p, ws, rfl, h1, h⟩
theorem s_gf1 {nx bk ct : Env → Sto → Prop} {rt : WK} {xc : XC} {r0 : Option W} {p : Addr} {ws : List W} (h1 : S p = some (.lst ws)) (h : nx (r0 :: some (.lst ws) :: ρ) (sdel S p)) : wps Φ (.gfrz 1) (r0 :: some (.ref p) :: ρ) S ⟨nx, rt, bk, ct, xc⟩ := ⟨p, ws, rfl, h1, h⟩
theorem s_gf2 {nx bk ct : Env → Sto → Prop} {rt : WK} {xc : XC} {r0 r1 : Option W} {p : Addr} {ws : List W} (h1 : S p = some (.lst ws)) (h : nx (r0 :: r1 :: some (.lst ws) :: ρ) (sdel S p)) : wps Φ (.gfrz 2) (r0 :: r1 :: some (.ref p) :: ρ) S ⟨nx, rt, bk, ct, xc⟩ := ⟨p, ws, rfl, h1, h⟩
theorem s_gf3 {nx bk ct : Env → Sto → Prop} {rt : WK} {xc : XC} {r0 r1 r2 : Option W} {p : Addr} {ws : List W} (h1 : S p = some (.lst ws)) (h : nx (r0 :: r1 :: r2 :: some (.lst ws) :: ρ) (sdel S p)) : wps Φ (.gfrz 3) (r0 :: r1 :: r2 :: some (.ref p) :: ρ) S ⟨nx, rt, bk, ct, xc⟩ := ⟨p, ws, rfl, h1, h⟩
theorem s_gf4 {nx bk ct : Env → Sto → Prop} {rt : WK} {xc : XC} {r0 r1 r2 r3 : Option W} {p : Addr} {ws : List W} (h1 : S p = some (.lst ws)) (h : nx (r0 :: r1 :: r2 :: r3 :: some (.lst ws) :: ρ) (sdel S p)) : wps Φ (.gfrz 4) (r0 :: r1 :: r2 :: r3 :: some (.ref p) :: ρ) S ⟨nx, rt, bk, ct, xc⟩ := ⟨p, ws, rfl, h1, h⟩
theorem s_gf5 {nx bk ct : Env → Sto → Prop} {rt : WK} {xc : XC} {r0 r1 r2 r3 r4 : Option W} {p : Addr} {ws : List W} (h1 : S p = some (.lst ws)) (h : nx (r0 :: r1 :: r2 :: r3 :: r4 :: some (.lst ws) :: ρ) (sdel S p)) : wps Φ (.gfrz 5) (r0 :: r1 :: r2 :: r3 :: r4 :: some (.ref p) :: ρ) S ⟨nx, rt, bk, ct, xc⟩ := ⟨p, ws, rfl, h1, h⟩
theorem s_gf6 {nx bk ct : Env → Sto → Prop} {rt : WK} {xc : XC} {r0 r1 r2 r3 r4 r5 : Option W} {p : Addr} {ws : List W} (h1 : S p = some (.lst ws)) (h : nx (r0 :: r1 :: r2 :: r3 :: r4 :: r5 :: some (.lst ws) :: ρ) (sdel S p)) : wps Φ (.gfrz 6) (r0 :: r1 :: r2 :: r3 :: r4 :: r5 :: some (.ref p) :: ρ) S ⟨nx, rt, bk, ct, xc⟩ := ⟨p, ws, rfl, h1, h⟩
theorem s_gf7 {nx bk ct : Env → Sto → Prop} {rt : WK} {xc : XC} {r0 r1 r2 r3 r4 r5 r6 : Option W} {p : Addr} {ws : List W} (h1 : S p = some (.lst ws)) (h : nx (r0 :: r1 :: r2 :: r3 :: r4 :: r5 :: r6 :: some (.lst ws) :: ρ) (sdel S p)) : wps Φ (.gfrz 7) (r0 :: r1 :: r2 :: r3 :: r4 :: r5 :: r6 :: some (.ref p) :: ρ) S ⟨nx, rt, bk, ct, xc⟩ := ⟨p, ws, rfl, h1, h⟩
theorem s_gf8 {nx bk ct : Env → Sto → Prop} {rt : WK} {xc : XC} {r0 r1 r2 r3 r4 r5 r6 r7 : Option W} {p : Addr} {ws : List W} (h1 : S p = some (.lst ws)) (h : nx (r0 :: r1 :: r2 :: r3 :: r4 :: r5 :: r6 :: r7 :: some (.lst ws) :: ρ) (sdel S p)) : wps Φ (.gfrz 8) (r0 :: r1 :: r2 :: r3 :: r4 :: r5 :: r6 :: r7 :: some (.ref p) :: ρ) S ⟨nx, rt, bk, ct, xc⟩ := ⟨p, ws, rfl, h1, h⟩
theorem s_gf9 {nx bk ct : Env → Sto → Prop} {rt : WK} {xc : XC} {r0 r1 r2 r3 r4 r5 r6 r7 r8 : Option W} {p : Addr} {ws : List W} (h1 : S p = some (.lst ws)) (h : nx (r0 :: r1 :: r2 :: r3 :: r4 :: r5 :: r6 :: r7 :: r8 :: some (.lst ws) :: ρ) (sdel S p)) : wps Φ (.gfrz 9) (r0 :: r1 :: r2 :: r3 :: r4 :: r5 :: r6 :: r7 :: r8 :: some (.ref p) :: ρ) S ⟨nx, rt, bk, ct, xc⟩ := ⟨p, ws, rfl, h1, h⟩
theorem s_gf10 {nx bk ct : Env → Sto → Prop} {rt : WK} {xc : XC} {r0 r1 r2 r3 r4 r5 r6 r7 r8 r9 : Option W} {p : Addr} {ws : List W} (h1 : S p = some (.lst ws)) (h : nx (r0 :: r1 :: r2 :: r3 :: r4 :: r5 :: r6 :: r7 :: r8 :: r9 :: some (.lst ws) :: ρ) (sdel S p)) : wps Φ (.gfrz 10) (r0 :: r1 :: r2 :: r3 :: r4 :: r5 :: r6 :: r7 :: r8 :: r9 :: some (.ref p) :: ρ) S ⟨nx, rt, bk, ct, xc⟩ := ⟨p, ws, rfl, h1, h⟩
theorem s_gf11 {nx bk ct : Env → Sto → Prop} {rt : WK} {xc : XC} {r0 r1 r2 r3 r4 r5 r6 r7 r8 r9 r10 : Option W} {p : Addr} {ws : List W} (h1 : S p = some (.lst ws)) (h : nx (r0 :: r1 :: r2 :: r3 :: r4 :: r5 :: r6 :: r7 :: r8 :: r9 :: r10 :: some (.lst ws) :: ρ) (sdel S p)) : wps Φ (.gfrz 11) (r0 :: r1 :: r2 :: r3 :: r4 :: r5 :: r6 :: r7 :: r8 :: r9 :: r10 :: some (.ref p) :: ρ) S ⟨nx, rt, bk, ct, xc⟩ := ⟨p, ws, rfl, h1, h⟩
theorem s_gf12 {nx bk ct : Env → Sto → Prop} {rt : WK} {xc : XC} {r0 r1 r2 r3 r4 r5 r6 r7 r8 r9 r10 r11 : Option W} {p : Addr} {ws : List W} (h1 : S p = some (.lst ws)) (h : nx (r0 :: r1 :: r2 :: r3 :: r4 :: r5 :: r6 :: r7 :: r8 :: r9 :: r10 :: r11 :: some (.lst ws) :: ρ) (sdel S p)) : wps Φ (.gfrz 12) (r0 :: r1 :: r2 :: r3 :: r4 :: r5 :: r6 :: r7 :: r8 :: r9 :: r10 :: r11 :: some (.ref p) :: ρ) S ⟨nx, rt, bk, ct, xc⟩ := ⟨p, ws, rfl, h1, h⟩
theorem s_gf13 {nx bk ct : Env → Sto → Prop} {rt : WK} {xc : XC} {r0 r1 r2 r3 r4 r5 r6 r7 r8 r9 r10 r11 r12 : Option W} {p : Addr} {ws : List W} (h1 : S p = some (.lst ws)) (h : nx (r0 :: r1 :: r2 :: r3 :: r4 :: r5 :: r6 :: r7 :: r8 :: r9 :: r10 :: r11 :: r12 :: some (.lst ws) :: ρ) (sdel S p)) : wps Φ (.gfrz 13) (r0 :: r1 :: r2 :: r3 :: r4 :: r5 :: r6 :: r7 :: r8 :: r9 :: r10 :: r11 :: r12 :: some (.ref p) :: ρ) S ⟨nx, rt, bk, ct, xc⟩ := ⟨p, ws, rfl, h1, h⟩
theorem s_gf14 {nx bk ct : Env → Sto → Prop} {rt : WK} {xc : XC} {r0 r1 r2 r3 r4 r5 r6 r7 r8 r9 r10 r11 r12 r13 : Option W} {p : Addr} {ws : List W} (h1 : S p = some (.lst ws)) (h : nx (r0 :: r1 :: r2 :: r3 :: r4 :: r5 :: r6 :: r7 :: r8 :: r9 :: r10 :: r11 :: r12 :: r13 :: some (.lst ws) :: ρ) (sdel S p)) : wps Φ (.gfrz 14) (r0 :: r1 :: r2 :: r3 :: r4 :: r5 :: r6 :: r7 :: r8 :: r9 :: r10 :: r11 :: r12 :: r13 :: some (.ref p) :: ρ) S ⟨nx, rt, bk, ct, xc⟩ := ⟨p, ws, rfl, h1, h⟩
theorem s_gf15 {nx bk ct : Env → Sto → Prop} {rt : WK} {xc : XC} {r0 r1 r2 r3 r4 r5 r6 r7 r8 r9 r10 r11 r12 r13 r14 : Option W} {p : Addr} {ws : List W} (h1 : S p = some (.lst ws)) (h : nx (r0 :: r1 :: r2 :: r3 :: r4 :: r5 :: r6 :: r7 :: r8 :: r9 :: r10 :: r11 :: r12 :: r13 :: r14 :: some (.lst ws) :: ρ) (sdel S p)) : wps Φ (.gfrz 15) (r0 :: r1 :: r2 :: r3 :: r4 :: r5 :: r6 :: r7 :: r8 :: r9 :: r10 :: r11 :: r12 :: r13 :: r14 :: some (.ref p) :: ρ) S ⟨nx, rt, bk, ct, xc⟩ := ⟨p, ws, rfl, h1, h⟩
theorem s_gf16 {nx bk ct : Env → Sto → Prop} {rt : WK} {xc : XC} {r0 r1 r2 r3 r4 r5 r6 r7 r8 r9 r10 r11 r12 r13 r14 r15 : Option W} {p : Addr} {ws : List W} (h1 : S p = some (.lst ws)) (h : nx (r0 :: r1 :: r2 :: r3 :: r4 :: r5 :: r6 :: r7 :: r8 :: r9 :: r10 :: r11 :: r12 :: r13 :: r14 :: r15 :: some (.lst ws) :: ρ) (sdel S p)) : wps Φ (.gfrz 16) (r0 :: r1 :: r2 :: r3 :: r4 :: r5 :: r6 :: r7 :: r8 :: r9 :: r10 :: r11 :: r12 :: r13 :: r14 :: r15 :: some (.ref p) :: ρ) S ⟨nx, rt, bk, ct, xc⟩ := ⟨p, ws, rfl, h1, h⟩
theorem s_gf17 {nx bk ct : Env → Sto → Prop} {rt : WK} {xc : XC} {r0 r1 r2 r3 r4 r5 r6 r7 r8 r9 r10 r11 r12 r13 r14 r15 r16 : Option W} {p : Addr} {ws : List W} (h1 : S p = some (.lst ws)) (h : nx (r0 :: r1 :: r2 :: r3 :: r4 :: r5 :: r6 :: r7 :: r8 :: r9 :: r10 :: r11 :: r12 :: r13 :: r14 :: r15 :: r16 :: some (.lst ws) :: ρ) (sdel S p)) : wps Φ (.gfrz 17) (r0 :: r1 :: r2 :: r3 :: r4 :: r5 :: r6 :: r7 :: r8 :: r9 :: r10 :: r11 :: r12 :: r13 :: r14 :: r15 :: r16 :: some (.ref p) :: ρ) S ⟨nx, rt, bk, ct, xc⟩ := ⟨p, ws, rfl, h1, h⟩
theorem s_gf18 {nx bk ct : Env → Sto → Prop} {rt : WK} {xc : XC} {r0 r1 r2 r3 r4 r5 r6 r7 r8 r9 r10 r11 r12 r13 r14 r15 r16 r17 : Option W} {p : Addr} {ws : List W} (h1 : S p = some (.lst ws)) (h : nx (r0 :: r1 :: r2 :: r3 :: r4 :: r5 :: r6 :: r7 :: r8 :: r9 :: r10 :: r11 :: r12 :: r13 :: r14 :: r15 :: r16 :: r17 :: some (.lst ws) :: ρ) (sdel S p)) : wps Φ (.gfrz 18) (r0 :: r1 :: r2 :: r3 :: r4 :: r5 :: r6 :: r7 :: r8 :: r9 :: r10 :: r11 :: r12 :: r13 :: r14 :: r15 :: r16 :: r17 :: some (.ref p) :: ρ) S ⟨nx, rt, bk, ct, xc⟩ := ⟨p, ws, rfl, h1, h⟩
theorem s_gf19 {nx bk ct : Env → Sto → Prop} {rt : WK} {xc : XC} {r0 r1 r2 r3 r4 r5 r6 r7 r8 r9 r10 r11 r12 r13 r14 r15 r16 r17 r18 : Option W} {p : Addr} {ws : List W} (h1 : S p = some (.lst ws)) (h : nx (r0 :: r1 :: r2 :: r3 :: r4 :: r5 :: r6 :: r7 :: r8 :: r9 :: r10 :: r11 :: r12 :: r13 :: r14 :: r15 :: r16 :: r17 :: r18 :: some (.lst ws) :: ρ) (sdel S p)) : wps Φ (.gfrz 19) (r0 :: r1 :: r2 :: r3 :: r4 :: r5 :: r6 :: r7 :: r8 :: r9 :: r10 :: r11 :: r12 :: r13 :: r14 :: r15 :: r16 :: r17 :: r18 :: some (.ref p) :: ρ) S ⟨nx, rt, bk, ct, xc⟩ := ⟨p, ws, rfl, h1, h⟩
theorem e_lc' {live : Bool} {own : List (Str × Nat)} {ρ' : Env} {it t c : CE} (hw : wipeW ρ (own.map (·.2)) = ρ') (h : (wp Φ it).i ρ S (fun src items S1 =>
      wpLc src (wp Φ t).g (wp Φ c).c (fun ρ1 S2 Q1 => (wp Φ e).e ρ1 S2 Q1 XN) ρ' items [] S1 fun ws S2 => mkL live ws S2 Q) X) : (wp Φ (.lc live own t it c e)).e ρ S Q X := by
  subst hw; exact h
theorem u_i {a b : Int} {i : Nat} {sb : Bool} {P : Int → Prop} (q : P (augI sb a b)) : ∃ a' b', W.int a = .int a' ∧ W.int b = .int b' ∧ P (augI sb a' b') := ⟨a, b, rfl, rfl, q⟩
end
theorem sup_swap {S : Sto} {a p : Addr} {x y o : Ob} (h : p ≠ a) : sup (sup (sup S a x) p o) a y = sup (sup S a y) p o := by
  funext b
  unfold sup
  by_cases h1 : b = a
  · subst h1
    rw [if_pos rfl, if_neg h.symm, if_pos rfl]
  · rw [if_neg h1]
    by_cases h2 : b = p
    · rw [if_pos h2, if_pos h2]
    · rw [if_neg h2, if_neg h1, if_neg h2, if_neg h1]
theorem sup_id {S : Sto} {a : Addr} {o : Ob} (h : S a = some o) : sup S a o = S := by
  funext b
  unfold sup
  by_cases e : b = a
  · rw [if_pos e, e, h]
  · rw [if_neg e]
theorem sup_none {S : Sto} {a p : Addr} {o : Ob} (h : p ≠ a) (hs : S p = none) : sup S a o p = none := by rw [sup_ne h]; exact hs
theorem fewer_sup {S : Sto} {p : Addr} {o : Ob} (h : S p = none) : Fewer S (sup S p o) := fun b u e => by
  rw [sup_ne (fun z => by rw [z, h] at e; cases e)]
  exact e
theorem ref_and {R : Prop} {a : Addr} (q : R) : (∃ a', W.ref a = .ref a') ∧ R := ⟨⟨a, rfl⟩, q⟩
theorem u_set {x k : W} {sb : Bool} {a b : Int} {S : Sto} {Q : Sto → Prop} (q : setW x k (.int (augI sb a b)) S Q) : ∃ a' b', W.int a = .int a' ∧ W.int b = .int b' ∧ setW x k (.int (augI sb a' b')) S Q := ⟨a, b, rfl, rfl, q⟩
theorem ite_nd {p : Prop} [Decidable p] {A B : Prop} (h1 : ¬p → A) (h2 : p → B) : if (!decide p) = true then A else B := by
  by_cases h : p
  · rw [if_neg (by simp [h])]; exact h2 h
  · rw [if_pos (by simp [h])]; exact h1 h
theorem rdl_c {S : Sto} {p : Addr} {ws : List W} (h : S p = some (.lst ws)) : rdL S (.ref p) = some ws := by
  show (S p).bind obL = _
  rw [h]; rfl
theorem rdq_c {S : Sto} {p : Addr} {ws : List W} (h : S p = some (.lst ws)) : rdQ S (.ref p) = some ws := rdl_c h
theorem sup_comm {S : Sto} {a p : Addr} {y o : Ob} (h : p ≠ a) : sup (sup S p o) a y = sup (sup S a y) p o := by
  funext b
  unfold sup
  by_cases h1 : b = a
  · subst h1
    rw [if_pos rfl, if_neg h.symm, if_pos rfl]
  · rw [if_neg h1]
    by_cases h2 : b = p
    · rw [if_pos h2, if_pos h2]
    · rw [if_neg h2, if_neg h2, if_neg h1]
theorem sIx_nn {n d : Nat} {v : Int} (h : 0 ≤ v) : HT.sIx n d (some v) = min v.toNat n := by
  have := HT.sIx_nat n d v.toNat
  rwa [Int.toNat_of_nonneg h] at this
theorem ne_new {S : Sto} {a p : Addr} {o : Ob} (h : S a = some o) (hp : S p = none) : p ≠ a := fun e => by
  rw [e, h] at hp
  cases hp
theorem le_and {n : Nat} {R : Prop} (h : n ≤ sizeLine) (q : R) : n ≤ sizeLine ∧ R := ⟨h, q⟩
theorem pow_ok {i j : Int} (h0 : 0 ≤ j) (h1 : j ≤ 1000000) (h2 : i.natAbs < 2 ^ 64) : CPow i j := ⟨h0, h1, h2⟩
theorem cut_map {α : Type} (f : α → W) (zs : List α) (lo hi : Option Int) : cutW (zs.map f) lo hi = ((zs.drop (HT.sIx zs.length 0 lo)).take (HT.sIx zs.length zs.length hi - HT.sIx zs.length 0 lo)).map f := by
  unfold cutW
  rw [List.length_map, List.map_take, List.map_drop]
theorem cut_sub {w : W} {zs : List W} {lo hi : Option Int} (h : w ∈ cutW zs lo hi) : w ∈ zs := List.mem_of_mem_drop (List.mem_of_mem_take h)
theorem cut_len {zs : List W} {lo hi : Option Int} : (cutW zs lo hi).length ≤ zs.length := by
  unfold cutW
  rw [List.length_take, List.length_drop]
  omega
theorem bits {i : Int} {n : Nat} (h : -(2 ^ n : Int) < i ∧ i < 2 ^ n) (hn : 0 < n) : i.natAbs < 2 ^ n := by
  have e : ((2 ^ n : Nat) : Int) = (2 : Int) ^ n := by push_cast; rfl
  omega
/-- a product of numbers below 2^1000 -/
theorem mul_ok {i j : Int} (h1 : -(2 ^ 250 : Int) < i ∧ i < 2 ^ 250) (h2 : -(2 ^ 250 : Int) < j ∧ j < 2 ^ 250) : CMulW i j :=
  wide_mul (bits h1 (by decide)) (bits h2 (by decide)) (by decide) (by decide) (by decide)
theorem div_ok {i j : Int} (h0 : 0 < j) (h : j < 2 ^ 250) : CDivW i j := wide_div h0 (bits ⟨by omega, h⟩ (by decide)) (by decide) (by decide)
end MP

set_option Elab.async false
set_option linter.all false
set_option maxRecDepth 100000
set_option maxHeartbeats 4000000
/-! MP16: loops and comprehensions by invariants; equality of plain values. -/
namespace MP
open PySem PySem.Spec PyProof.Rows L2

/-! ### loops -/
theorem for_inv {src : Sto → Prop} {g : W → Env → Sto → (Env → Sto → Prop) → Prop} {b : WS} {items : List W} {ρ : Env} {S : Sto} {nx bk ct : Env → Sto → Prop} {rt : WK} {xc : XC} (I : Nat → Env → Sto → Prop) (h0 : I 0 ρ S) (hs : ∀ i ρ S, I i ρ S → src S)
    (step : ∀ i w ρ S, items[i]? = some w → I i ρ S → ∀ K : Env → Sto → Prop, (∀ ρ' S', I (i + 1) ρ' S' → K ρ' S') → g w ρ S fun ρ1 S1 => b ρ1 S1 ⟨K, rt, nx, K, xc⟩)
    (hd : ∀ ρ S, I items.length ρ S → nx ρ S) : wpFor src g b items ρ S ⟨nx, rt, bk, ct, xc⟩ := by
  have go : ∀ (m i : Nat) (ρ : Env) (S : Sto), i + m = items.length → I i ρ S → wpFor src g b (items.drop i) ρ S ⟨nx, rt, bk, ct, xc⟩ := by
    intro m
    induction m with
    | zero =>
      intro i ρ S hi h
      rw [List.drop_eq_nil_of_le (by omega)]
      have e : i = items.length := by omega
      subst e
      exact ⟨hs _ _ _ h, hd _ _ h⟩
    | succ m ih =>
      intro i ρ S hi h
      have hl : i < items.length := by omega
      rw [List.drop_eq_getElem_cons hl]
      exact ⟨hs _ _ _ h, step i _ ρ S (List.getElem?_eq_getElem hl) h _ fun ρ' S' h' => ih (i + 1) ρ' S' (by omega) h'⟩
  have := go items.length 0 ρ S (by omega) h0
  rwa [List.drop_zero] at this
/-- .. the items being codes of xs -/
theorem for_map {α : Type} {enc : α → W} {xs : List α} {src : Sto → Prop} {g : W → Env → Sto → (Env → Sto → Prop) → Prop} {b : WS} {ρ : Env} {S : Sto} {nx bk ct : Env → Sto → Prop} {rt : WK} {xc : XC} (I : Nat → Env → Sto → Prop) (h0 : I 0 ρ S) (hs : ∀ i ρ S, I i ρ S → src S)
    (step : ∀ i x ρ S, xs[i]? = some x → I i ρ S → ∀ K : Env → Sto → Prop, (∀ ρ' S', I (i + 1) ρ' S' → K ρ' S') → g (enc x) ρ S fun ρ1 S1 => b ρ1 S1 ⟨K, rt, nx, K, xc⟩)
    (hd : ∀ ρ S, I xs.length ρ S → nx ρ S) : wpFor src g b (xs.map enc) ρ S ⟨nx, rt, bk, ct, xc⟩ := by
  refine for_inv I h0 hs (fun i w ρ S hw h K hK => ?_) (fun ρ S h => hd ρ S (by rw [List.length_map] at h; exact h))
  rw [List.getElem?_map] at hw
  cases e : xs[i]? with
  | none => rw [e] at hw; cases hw
  | some x =>
    rw [e] at hw
    cases hw
    exact step i x ρ S e h K hK
theorem rng_map (lo : Int) (n : Nat) : rngW lo n = (List.range n).map fun (i : Nat) => W.int (lo + i) := rfl
/-- over a range -/
theorem for_rng {lo : Int} {n : Nat} {src : Sto → Prop} {g : W → Env → Sto → (Env → Sto → Prop) → Prop} {b : WS} {ρ : Env} {S : Sto} {nx bk ct : Env → Sto → Prop} {rt : WK} {xc : XC} (I : Nat → Env → Sto → Prop) (h0 : I 0 ρ S) (hs : ∀ i ρ S, I i ρ S → src S)
    (step : ∀ i ρ S, i < n → I i ρ S → ∀ K : Env → Sto → Prop, (∀ ρ' S', I (i + 1) ρ' S' → K ρ' S') → g (.int (lo + i)) ρ S fun ρ1 S1 => b ρ1 S1 ⟨K, rt, nx, K, xc⟩)
    (hd : ∀ ρ S, I n ρ S → nx ρ S) : wpFor src g b (rngW lo n) ρ S ⟨nx, rt, bk, ct, xc⟩ := by
  rw [rng_map]
  refine for_map I h0 hs (fun i x ρ S hx h K hK => ?_) (fun ρ S h => hd ρ S (by rw [List.length_range] at h; exact h))
  have hl : i < n := by
    have := (List.getElem?_eq_some_iff.mp hx).1
    rwa [List.length_range] at this
  rw [List.getElem?_range hl] at hx
  cases hx
  exact step i ρ S hl h K hK
theorem zip_map {α β : Type} (f : α → W) (h : β → W) : ∀ (xs : List α) (ys : List β), zipW (xs.map f) (ys.map h) = (xs.zip ys).map fun p => W.tup [f p.1, h p.2]
  | [], ys => by cases ys <;> rfl
  | x :: xs, [] => rfl
  | x :: xs, y :: ys => by
    show _ :: zipW (xs.map f) (ys.map h) = _
    rw [zip_map f h xs ys]
    rfl
theorem enm_map {α : Type} (f : α → W) : ∀ (xs : List α) (n : Nat), enmW n (xs.map f) = (xs.zipIdx n).map fun p => W.tup [.int (p.2 : Nat), f p.1]
  | [], n => rfl
  | x :: xs, n => by
    show _ :: enmW (n + 1) (xs.map f) = _
    rw [enm_map f xs (n + 1)]
    rfl
/-! ### comprehensions -/
section
variable {src : Sto → Prop} {g : W → Env → Sto → (Env → Sto → Prop) → Prop} {t : Env → Sto → (Bool → Sto → Prop) → Prop} {e : WE} {ρ : Env} {S : Sto} {Q : List W → Sto → Prop}
theorem lc_inv {items : List W} (I : Nat → List W → Sto → Prop) (h0 : I 0 [] S) (hs : ∀ i acc S, I i acc S → src S)
    (step : ∀ i w acc S, items[i]? = some w → I i acc S → ∀ K : List W → Sto → Prop, (∀ acc' S', I (i + 1) acc' S' → K acc' S') → g w ρ S fun ρ1 S1 => t ρ1 S1 fun b S2 =>
      if b = true then e ρ1 S2 (fun y S3 => acc.length < sizeLine ∧ K (acc ++ [y]) S3) XN else K acc S2)
    (hd : ∀ acc S, I items.length acc S → Q acc S) : wpLc src g t (fun ρ1 S2 Q1 => e ρ1 S2 Q1 XN) ρ items [] S Q := by
  have go : ∀ (m i : Nat) (acc : List W) (S : Sto), i + m = items.length → I i acc S → wpLc src g t (fun ρ1 S2 Q1 => e ρ1 S2 Q1 XN) ρ (items.drop i) acc S Q := by
    intro m
    induction m with
    | zero =>
      intro i acc S hi h
      rw [List.drop_eq_nil_of_le (by omega)]
      have e : i = items.length := by omega
      subst e
      exact ⟨hs _ _ _ h, hd _ _ h⟩
    | succ m ih =>
      intro i acc S hi h
      have hl : i < items.length := by omega
      rw [List.drop_eq_getElem_cons hl]
      exact ⟨hs _ _ _ h, step i _ acc S (List.getElem?_eq_getElem hl) h (fun acc' S' => wpLc src g t (fun ρ1 S2 Q1 => e ρ1 S2 Q1 XN) ρ (items.drop (i + 1)) acc' S' Q) fun acc' S' h' => ih (i + 1) acc' S' (by omega) h'⟩
  have := go items.length 0 [] S (by omega) h0
  rwa [List.drop_zero] at this
/-- the store stays; p: the condition, f: the element -/
theorem lc_fm {α : Type} {enc : α → W} {xs : List α} (p : α → Bool) (f : α → W) (hs : src S) (hl : xs.length ≤ sizeLine)
    (step : ∀ x, x ∈ xs → ∀ (K : WK) (K2 : Sto → Prop), (p x = true → K (f x) S) → (p x = false → K2 S) → g (enc x) ρ S fun ρ1 S1 => t ρ1 S1 fun b S2 => if b = true then e ρ1 S2 K XN else K2 S2)
    (hd : Q ((xs.filter p).map f) S) : wpLc src g t (fun ρ1 S2 Q1 => e ρ1 S2 Q1 XN) ρ (xs.map enc) [] S Q := by
  refine lc_inv (fun i acc S1 => S1 = S ∧ acc = ((xs.take i).filter p).map f) ⟨rfl, rfl⟩ (fun i acc S1 h => h.1 ▸ hs) (fun i w acc S1 hw h K hK => ?_) (fun acc S1 h => ?_)
  · obtain ⟨rfl, rfl⟩ := h
    rw [List.getElem?_map] at hw
    cases ex : xs[i]? with
    | none => rw [ex] at hw; cases hw
    | some x =>
      rw [ex] at hw
      cases hw
      have hi : i < xs.length := (List.getElem?_eq_some_iff.mp ex).1
      refine step x (List.mem_of_getElem? ex) (fun y S3 => (((xs.take i).filter p).map f).length < sizeLine ∧ K (((xs.take i).filter p).map f ++ [y]) S3) (fun S2 => K (((xs.take i).filter p).map f) S2) (fun hp => ⟨?_, hK _ _ ⟨rfl, ?_⟩⟩) (fun hp => hK _ _ ⟨rfl, ?_⟩)
      · rw [List.length_map]
        have h1 := List.length_filter_le p (xs.take i)
        rw [List.length_take] at h1
        omega
      · rw [List.take_add_one, ex, List.filter_append, List.map_append]
        simp [hp]
      · rw [List.take_add_one, ex, List.filter_append, List.map_append]
        simp [hp]
  · obtain ⟨rfl, rfl⟩ := h
    rw [List.length_map, List.take_length]
    exact hd
/-- no condition -/
theorem lc_mp {α : Type} {enc : α → W} {xs : List α} {Φ : Nat → Spec} (f : α → W) (hs : src S) (hl : xs.length ≤ sizeLine)
    (step : ∀ x, x ∈ xs → ∀ (K : WK), K (f x) S → g (enc x) ρ S fun ρ1 S1 => e ρ1 S1 K XN)
    (hd : Q (xs.map f) S) : wpLc src g (wp Φ .nil).c (fun ρ1 S2 Q1 => e ρ1 S2 Q1 XN) ρ (xs.map enc) [] S Q := by
  refine lc_fm (fun _ => true) f hs hl (fun x hx K K2 h1 _ => ?_) (by rw [List.filter_eq_self.mpr (fun _ _ => rfl)]; exact hd)
  exact step x hx K (h1 rfl)
end
/-! ### equality -/
inductive Pln : Nat → W → Prop
  | non (n : Nat) : Pln n .non
  | int (n : Nat) (i : Int) : Pln n (.int i)
  | str (n : Nat) (x : Str) : (PyData.str x).canLay0 = true → Pln n (.str x)
  | tup (n : Nat) (ws : List W) : (∀ w ∈ ws, Pln n w) → Pln (n + 1) (.tup ws)
  | lst (n : Nat) (ws : List W) : (∀ w ∈ ws, Pln n w) → Pln (n + 1) (.lst ws)
theorem VwL.of {S : Sto} : ∀ {ws : List W}, (∀ w ∈ ws, Vw S w (datW w)) → VwL S ws (datL ws)
  | [], _ => .nil
  | w :: ws, h => .cons (h w (by simp)) (VwL.of fun u hu => h u (by simp [hu]))
theorem Pln.vw {S : Sto} {n : Nat} {w : W} (h : Pln n w) : Vw S w (datW w) := by
  induction h with
  | non => exact .non
  | int => exact .int _
  | str => exact .str _
  | tup n ws _ ih => exact .tup (VwL.of ih)
  | lst n ws _ ih => exact .lst (VwL.of ih)
theorem can_all : ∀ {ws : List W}, (∀ w ∈ ws, (datW w).canLay0 = true) → PyData.canLayAll0 (datL ws) = true
  | [], _ => rfl
  | w :: ws, h => by
    show ((datW w).canLay0 && PyData.canLayAll0 (datL ws)) = true
    rw [h w (by simp), can_all fun u hu => h u (by simp [hu])]
    rfl
theorem Pln.can {n : Nat} {w : W} (h : Pln n w) : (datW w).canLay0 = true := by
  induction h with
  | non => rfl
  | int => rfl
  | str n x h => exact h
  | tup n ws _ ih => exact can_all ih
  | lst n ws _ ih => exact can_all ih
theorem dep_all {n : Nat} : ∀ {ws : List W}, (∀ w ∈ ws, (datW w).depth ≤ n) → PyData.depthAll (datL ws) ≤ n
  | [], _ => Nat.zero_le _
  | w :: ws, h => by
    show max (datW w).depth (PyData.depthAll (datL ws)) ≤ n
    have h1 := h w (by simp)
    have h2 := dep_all (ws := ws) fun u hu => h u (by simp [hu])
    omega
theorem Pln.dep {n : Nat} {w : W} (h : Pln n w) : (datW w).depth ≤ n := by
  induction h with
  | non => exact Nat.zero_le _
  | int => exact Nat.zero_le _
  | str n x h => exact Nat.zero_le _
  | tup n ws _ ih => exact Nat.succ_le_succ (dep_all ih)
  | lst n ws _ ih => exact Nat.succ_le_succ (dep_all ih)
theorem Pln.shaped {n : Nat} {w : W} (h : Pln n w) (hn : n ≤ 64) : SeqAt.shaped (datW w) = true := by
  show ((datW w).canLay0 && decide ((datW w).depth ≤ 64)) = true
  rw [h.can, decide_eq_true (Nat.le_trans h.dep hn)]
  rfl
theorem eqv_all : ∀ {xs ys : List W}, (∀ x ∈ xs, ∀ y ∈ ys, (PyData.eqv (datW x) (datW y) = true ↔ x = y)) → (PyData.eqvAll (datL xs) (datL ys) = true ↔ xs = ys)
  | [], [], _ => ⟨fun _ => rfl, fun _ => rfl⟩
  | [], y :: ys, _ => ⟨fun h => (by cases h), fun h => (by cases h)⟩
  | x :: xs, [], _ => ⟨fun h => (by cases h), fun h => (by cases h)⟩
  | x :: xs, y :: ys, h => by
    show (PyData.eqv (datW x) (datW y) && PyData.eqvAll (datL xs) (datL ys)) = true ↔ _
    rw [Bool.and_eq_true, h x (by simp) y (by simp), eqv_all (xs := xs) (ys := ys) fun u hu v hv => h u (by simp [hu]) v (by simp [hv])]
    constructor
    · rintro ⟨rfl, rfl⟩; rfl
    · intro z; cases z; exact ⟨rfl, rfl⟩
theorem Pln.eqv {n : Nat} {x : W} (hx : Pln n x) : ∀ {m : Nat} {y : W}, Pln m y → (PyData.eqv (datW x) (datW y) = true ↔ x = y) := by
  induction hx with
  | non => intro m y hy; cases hy <;> exact ⟨fun h => (by cases h; try rfl), fun h => (by cases h; try rfl)⟩
  | int n i =>
    intro m y hy
    cases hy with
    | int m j =>
      show ((i == j) = true) ↔ _
      rw [beq_iff_eq]
      exact ⟨fun h => by rw [h], fun h => by cases h; rfl⟩
    | _ => exact ⟨fun h => (by cases h), fun h => (by cases h)⟩
  | str n a ha =>
    intro m y hy
    cases hy with
    | str m b =>
      show ((a == b) = true) ↔ _
      rw [beq_iff_eq]
      exact ⟨fun h => by rw [h], fun h => by cases h; rfl⟩
    | _ => exact ⟨fun h => (by cases h), fun h => (by cases h)⟩
  | tup n ws h1 ih =>
    intro m y hy
    cases hy with
    | tup m us h2 =>
      have := eqv_all (xs := ws) (ys := us) fun u hu v hv => ih u hu (h2 v hv)
      show (PyData.eqvAll (datL ws) (datL us) = true) ↔ _
      rw [this]
      exact ⟨fun h => by rw [h], fun h => by cases h; rfl⟩
    | _ => exact ⟨fun h => (by cases h), fun h => (by cases h)⟩
  | lst n ws h1 ih =>
    intro m y hy
    cases hy with
    | lst m us h2 =>
      have := eqv_all (xs := ws) (ys := us) fun u hu v hv => ih u hu (h2 v hv)
      show (PyData.eqvAll (datL ws) (datL us) = true) ↔ _
      rw [this]
      exact ⟨fun h => by rw [h], fun h => by cases h; rfl⟩
    | _ => exact ⟨fun h => (by cases h), fun h => (by cases h)⟩
section
variable {n m : Nat} {x y : W} {S : Sto} {Q : Bool → Prop} {a : Addr} {ws : List W}
theorem eq_p (hx : Pln n x) (hy : Pln m y) (q : ∀ b : Bool, (b = true ↔ x = y) → Q b) (hn : n ≤ 64 := by decide) (hm : m ≤ 64 := by decide) : cmpW .Eq x y S Q := by
  have h : eqWk x y S Q := ⟨_, _, hx.vw, hy.vw, hx.shaped hn, hy.shaped hm, q _ (hx.eqv hy)⟩
  cases x <;> cases y <;> exact h
theorem ne_p (hx : Pln n x) (hy : Pln m y) (q : ∀ b : Bool, (b = true ↔ x ≠ y) → Q b) (hn : n ≤ 64 := by decide) (hm : m ≤ 64 := by decide) : cmpW .NotEq x y S Q := by
  have h : eqWk x y S fun b => Q !b := ⟨_, _, hx.vw, hy.vw, hx.shaped hn, hy.shaped hm, q _ (by
    have := hx.eqv hy
    rw [Bool.not_eq_true', ← Bool.not_eq_true, this])⟩
  cases x <;> cases y <;> exact h
/-- the left one a live list -/
theorem eq_r (ha : S a = some (.lst ws)) (hx : Pln n (.lst ws)) (hy : Pln m y) (q : ∀ b : Bool, (b = true ↔ W.lst ws = y) → Q b) (hn : n ≤ 64 := by decide) (hm : m ≤ 64 := by decide) : cmpW .Eq (.ref a) y S Q := by
  have h : eqWk (.ref a) y S Q := ⟨datW (.lst ws), _, .ref (by rw [ha]; rfl) (by cases (hx.vw (S := S)) with | lst h => exact h), hy.vw, hx.shaped hn, hy.shaped hm, q _ (hx.eqv hy)⟩
  cases y <;> exact h
end
theorem pln_map {α : Type} {f : α → W} {xs : List α} {n : Nat} (h : ∀ x ∈ xs, Pln n (f x)) : Pln (n + 1) (.lst (xs.map f)) := .lst n _ fun w hw => by
  obtain ⟨x, hx, rfl⟩ := List.mem_map.mp hw
  exact h x hx
section
variable {S : Sto} {Q : Bool → Prop} {x : W} {a : Addr}
theorem eq_i {i j : Int} (q : Q (decide (i = j))) : cmpW .Eq (.int i) (.int j) S Q := eq_p (.int 0 i) (.int 0 j) fun b hb => by
  have : b = decide (i = j) := by
    rw [Bool.eq_iff_iff, hb, decide_eq_true_iff]
    exact ⟨fun h => by cases h; rfl, fun h => by rw [h]⟩
  rw [this]; exact q
theorem ne_i {i j : Int} (q : Q (decide (i ≠ j))) : cmpW .NotEq (.int i) (.int j) S Q := ne_p (.int 0 i) (.int 0 j) fun b hb => by
  have : b = decide (i ≠ j) := by
    rw [Bool.eq_iff_iff, hb, decide_eq_true_iff]
    exact ⟨fun h e => h (by rw [e]), fun h e => h (by cases e; rfl)⟩
  rw [this]; exact q
theorem eq_b {i j : Bool} (q : Q (i == j)) : cmpW .Eq (.bl i) (.bl j) S Q := ⟨_, _, .bl i, .bl j, rfl, rfl, q⟩
theorem ne_b {i j : Bool} (q : Q (i != j)) : cmpW .NotEq (.bl i) (.bl j) S Q := ⟨_, _, .bl i, .bl j, rfl, rfl, q⟩
theorem is_b {i j : Bool} (q : Q (decide (i = j))) : cmpW .Is (.bl i) (.bl j) S Q := ⟨_, rfl, q⟩
theorem isn_b {i j : Bool} (q : Q (!decide (i = j))) : cmpW .IsNot (.bl i) (.bl j) S Q := ⟨_, rfl, q⟩
theorem is_n (q : Q (isN x)) : cmpW .Is x .non S Q := ⟨_, (by cases x <;> rfl), q⟩
theorem isn_n (q : Q (!isN x)) : cmpW .IsNot x .non S Q := ⟨_, (by cases x <;> rfl), q⟩
theorem rd_k {kvs : List (Key × W)} {k : Key} (h : S a = some (.dk kvs)) (hk : keyW x = some k) : rdD S (.ref a) x = some (getK kvs k) := by
  show (S a).bind _ = _
  rw [h]
  show (keyW x).map _ = _
  rw [hk]
  rfl
theorem in_dk {kvs : List (Key × W)} {k : Key} (h : S a = some (.dk kvs)) (hk : keyW x = some k) (q : Q (getK kvs k).isSome) : cmpW .In x (.ref a) S Q := by
  have e := rd_k h hk
  cases x with
  | int i => exact .inr ⟨_, e, q⟩
  | str z => exact .inr ⟨_, e, q⟩
  | _ => cases hk
theorem notin_dk {kvs : List (Key × W)} {k : Key} (h : S a = some (.dk kvs)) (hk : keyW x = some k) (q : Q !(getK kvs k).isSome) : cmpW .NotIn x (.ref a) S Q := by
  have e := rd_k h hk
  cases x with
  | int i => exact .inr ⟨_, e, q⟩
  | str z => exact .inr ⟨_, e, q⟩
  | _ => cases hk
end
theorem atI_mem {zs : List W} {i : Int} (h0 : 0 ≤ i) (h : i < zs.length) : ∃ w, atI zs i = some w ∧ w ∈ zs := by
  have hl : i.toNat < zs.length := by omega
  exact ⟨_, atI_int h0 (List.getElem?_eq_getElem hl), List.getElem_mem hl⟩
theorem ix_any {ws : List W} {i : Int} {S : Sto} {Q : WK} (h0 : 0 ≤ i) (h : i < ws.length) (q : ∀ w ∈ ws, Q w S) : idxW (.lst ws) (.int i) S Q := by
  obtain ⟨w, h1, h2⟩ := atI_mem h0 h
  exact ix_l h1 (q w h2)
/-- an index of coded items -/
theorem ix_map {α : Type} {enc : α → W} {xs : List α} {i : Int} {x : α} {S : Sto} {Q : WK} (h0 : 0 ≤ i) (h : xs[i.toNat]? = some x) (q : Q (enc x) S) : idxW (.lst (xs.map enc)) (.int i) S Q :=
  ix_l (atI_int h0 (by rw [List.getElem?_map, h]; rfl)) q
theorem ix_mapc {α : Type} {enc : α → W} {xs : List α} {i : Int} {x : α} {a : Addr} {S : Sto} {Q : WK} (ha : S a = some (.lst (xs.map enc))) (h0 : 0 ≤ i) (h : xs[i.toNat]? = some x) (q : Q (enc x) S) : idxW (.ref a) (.int i) S Q :=
  ix_c ha (atI_int h0 (by rw [List.getElem?_map, h]; rfl)) q
theorem st_map {α : Type} {enc : α → W} {xs : List α} {i : Int} {x : α} {v : W} {a : Addr} {S : Sto} {Q : Sto → Prop} (ha : S a = some (.lst (xs.map enc))) (hv : v = enc x) (h0 : 0 ≤ i) (h : i < xs.length) (q : Q (sup S a (.lst ((xs.set i.toNat x).map enc)))) : setW (.ref a) (.int i) v S Q :=
  st_l (j := i.toNat) ha (ixN_int h0 (by rw [List.length_map]; exact h)) (by rw [hv, ← List.map_set]; exact q)
end MP

set_option Elab.async false
set_option linter.all false
set_option maxRecDepth 100000
set_option maxHeartbeats 4000000
/-! MP17: more short steps: lists by what they read as. -/
namespace MP
open PySem PySem.Spec PyProof.Rows L2
section
variable {S : Sto} {x : W} {zs : List W} {p : Addr} {o : Ob}
theorem ix_rl {i : Int} {w : W} {Q : WK} (h : rdL S x = some zs) (hw : atI zs i = some w) (q : Q w S) : idxW x (.int i) S Q := by
  cases x with
  | lst ws => cases h; exact ⟨w, hw, q⟩
  | ref a => exact .inl ⟨zs, i, w, h, rfl, hw, q⟩
  | _ => cases h
theorem ix_rm {α : Type} {enc : α → W} {xs : List α} {i : Int} {y : α} {Q : WK} (h : rdL S x = some (xs.map enc)) (h0 : 0 ≤ i) (hy : xs[i.toNat]? = some y) (q : Q (enc y) S) : idxW x (.int i) S Q :=
  ix_rl h (atI_int h0 (by rw [List.getElem?_map, hy]; rfl)) q
theorem rdl_new (h : rdL S x = some zs) (hp : S p = none) : rdL (sup S p o) x = some zs := by
  cases x with
  | ref a =>
    have : a ≠ p := fun e => by
      subst e
      have h : (S a).bind obL = some zs := h
      rw [hp] at h; cases h
    show (sup S p o a).bind obL = _
    rw [sup_ne this]; exact h
  | lst ws => exact h
  | _ => cases h
theorem rdl_put (h : rdL S x = some zs) (hp : x ≠ .ref p) : rdL (sup S p o) x = some zs := by
  cases x with
  | ref a =>
    have : a ≠ p := fun e => hp (by rw [e])
    show (sup S p o a).bind obL = _
    rw [sup_ne this]; exact h
  | lst ws => exact h
  | _ => cases h
theorem rdi_l (h : rdL S x = some zs) : rdI S x = some zs := by
  cases x with
  | ref a => exact h
  | lst ws => exact h
  | _ => cases h
theorem rdq_l (h : rdL S x = some zs) : rdQ S x = some zs := by
  cases x with
  | ref a => exact h
  | lst ws => exact h
  | _ => cases h
theorem ref_ne_new (h : rdL S x = some zs) (hp : S p = none) : x ≠ .ref p := fun e => by
  subst e
  have h : (S p).bind obL = some zs := h
  rw [hp] at h; cases h
end
theorem le_line {n : Nat} (h : n ≤ 10000) : n ≤ sizeLine := Nat.le_trans h (by decide)
theorem lt_line {n : Nat} (h : n ≤ 10000) : n < sizeLine := Nat.lt_of_le_of_lt h (by decide)
theorem len_ok {x : W} {zs : List W} {S : Sto} {Q : WK} {live : Bool} (h : rdL S x = some zs) (q : Q (.int zs.length) S) : bltW live .len [x] S Q := by
  cases x with
  | ref a => exact .inl ⟨zs, h, q⟩
  | lst ws => exact .inl ⟨zs, h, q⟩
  | _ => cases h
theorem ng {i : Int} {P : Int → Prop} (h : P i) : ∃ i', W.int i = .int i' ∧ P i' := ⟨i, rfl, h⟩
section
variable {S : Sto} {P : Bool → Prop}
theorem tq_bl {b : Bool} (h : P b) : ∃ b', truW S (.bl b) = some b' ∧ P b' := ⟨_, rfl, h⟩
theorem tq_int {i : Int} (h : P (i != 0)) : ∃ b', truW S (.int i) = some b' ∧ P b' := ⟨_, rfl, h⟩
theorem tq_non (h : P false) : ∃ b', truW S .non = some b' ∧ P b' := ⟨_, rfl, h⟩
theorem tq_lst {ws : List W} (h : P (!ws.isEmpty)) : ∃ b', truW S (.lst ws) = some b' ∧ P b' := ⟨_, rfl, h⟩
theorem tq_tup {ws : List W} (h : P (!ws.isEmpty)) : ∃ b', truW S (.tup ws) = some b' ∧ P b' := ⟨_, rfl, h⟩
end
section
variable {α β : Type} {enc : α → W} {enc2 : β → W} {xs : List α} {ys : List β} {src : Sto → Prop} {g : W → Env → Sto → (Env → Sto → Prop) → Prop} {b : WS} {ρ : Env} {S : Sto} {nx bk ct : Env → Sto → Prop} {rt : WK} {xc : XC}
/-- over enumerate -/
theorem for_enm (I : Nat → Env → Sto → Prop) (h0 : I 0 ρ S) (hs : ∀ i ρ S, I i ρ S → src S)
    (step : ∀ i x ρ S, xs[i]? = some x → I i ρ S → ∀ K : Env → Sto → Prop, (∀ ρ' S', I (i + 1) ρ' S' → K ρ' S') → g (.tup [.int (i : Nat), enc x]) ρ S fun ρ1 S1 => b ρ1 S1 ⟨K, rt, nx, K, xc⟩)
    (hd : ∀ ρ S, I xs.length ρ S → nx ρ S) : wpFor src g b (enmW 0 (xs.map enc)) ρ S ⟨nx, rt, bk, ct, xc⟩ := by
  rw [enm_map]
  refine for_map I h0 hs (fun i x ρ S hx h K hK => ?_) (fun ρ S h => hd ρ S (by rw [List.length_zipIdx] at h; exact h))
  rw [List.getElem?_zipIdx] at hx
  cases ex : xs[i]? with
  | none => rw [ex] at hx; cases hx
  | some a =>
    rw [ex] at hx
    have e : (a, 0 + i) = x := by simpa using hx
    subst e
    have := step i a ρ S ex h K hK
    rw [Nat.zero_add]
    exact this
/-- over zip -/
theorem for_zip (I : Nat → Env → Sto → Prop) (h0 : I 0 ρ S) (hs : ∀ i ρ S, I i ρ S → src S)
    (step : ∀ i x y ρ S, xs[i]? = some x → ys[i]? = some y → I i ρ S → ∀ K : Env → Sto → Prop, (∀ ρ' S', I (i + 1) ρ' S' → K ρ' S') → g (.tup [enc x, enc2 y]) ρ S fun ρ1 S1 => b ρ1 S1 ⟨K, rt, nx, K, xc⟩)
    (hd : ∀ ρ S, I (min xs.length ys.length) ρ S → nx ρ S) : wpFor src g b (zipW (xs.map enc) (ys.map enc2)) ρ S ⟨nx, rt, bk, ct, xc⟩ := by
  rw [zip_map]
  refine for_map I h0 hs (fun i x ρ S hx h K hK => ?_) (fun ρ S h => hd ρ S (by rw [List.length_zip] at h; exact h))
  obtain ⟨a, c⟩ := x
  rw [List.getElem?_zip_eq_some] at hx
  exact step i a c ρ S hx.1 hx.2 h K hK
end
end MP
namespace MP
open PySem PySem.Spec PyProof.Rows L2
theorem ne_r {n m : Nat} {y : W} {S : Sto} {Q : Bool → Prop} {a : Addr} {ws : List W} (ha : S a = some (.lst ws)) (hx : Pln n (.lst ws)) (hy : Pln m y) (q : ∀ b : Bool, (b = true ↔ W.lst ws ≠ y) → Q b) (hn : n ≤ 64 := by decide) (hm : m ≤ 64 := by decide) : cmpW .NotEq (.ref a) y S Q := by
  have h : eqWk (.ref a) y S fun b => Q !b := ⟨datW (.lst ws), _, .ref (by rw [ha]; rfl) (by cases (hx.vw (S := S)) with | lst h => exact h), hy.vw, hx.shaped hn, hy.shaped hm, q _ (by
    have := hx.eqv hy
    rw [Bool.not_eq_true', ← Bool.not_eq_true, this])⟩
  cases y <;> exact h
/-- equality by what is read -/
theorem eq_vw {n m : Nat} {x y u w : W} {S : Sto} {Q : Bool → Prop} (hx : Vw S x (datW u)) (hy : Vw S y (datW w)) (hu : Pln n u) (hw : Pln m w) (q : ∀ b : Bool, (b = true ↔ u = w) → Q b) (hn : n ≤ 64 := by decide) (hm : m ≤ 64 := by decide) : cmpW .Eq x y S Q := by
  have h : eqWk x y S Q := ⟨_, _, hx, hy, hu.shaped hn, hw.shaped hm, q _ (hu.eqv hw)⟩
  cases x <;> cases y <;> exact h
theorem ne_vw {n m : Nat} {x y u w : W} {S : Sto} {Q : Bool → Prop} (hx : Vw S x (datW u)) (hy : Vw S y (datW w)) (hu : Pln n u) (hw : Pln m w) (q : ∀ b : Bool, (b = true ↔ u ≠ w) → Q b) (hn : n ≤ 64 := by decide) (hm : m ≤ 64 := by decide) : cmpW .NotEq x y S Q := by
  have h : eqWk x y S fun b => Q !b := ⟨_, _, hx, hy, hu.shaped hn, hw.shaped hm, q _ (by
    have := hu.eqv hw
    rw [Bool.not_eq_true', ← Bool.not_eq_true, this])⟩
  cases x <;> cases y <;> exact h
theorem vw_cell {n : Nat} {S : Sto} {a : Addr} {ws : List W} (ha : S a = some (.lst ws)) (h : Pln n (.lst ws)) : Vw S (.ref a) (datW (.lst ws)) :=
  .ref (by rw [ha]; rfl) (by cases (h.vw (S := S)) with | lst h => exact h)
theorem b_of {b : Bool} {p : Prop} [Decidable p] (h : b = true ↔ p) : b = decide p := by
  rw [Bool.eq_iff_iff, h, decide_eq_true_iff]
theorem b_t {b : Bool} {p : Prop} (h : b = true ↔ p) (hp : p) : b = true := h.mpr hp
theorem b_f {b : Bool} {p : Prop} (h : b = true ↔ p) (hp : ¬ p) : b = false := by
  cases b with
  | false => rfl
  | true => exact absurd (h.mp rfl) hp
end MP
namespace MP
theorem iteF' {c : Bool} {A B : Prop} (hc : c = false) (h : B) : if c = true then A else B := by rw [hc]; exact h
theorem iteT' {c : Bool} {A B : Prop} (hc : c = true) (h : A) : if c = true then A else B := by rw [hc]; exact h
end MP

set_option Elab.async false
set_option linter.all false
set_option maxRecDepth 100000
set_option maxHeartbeats 1000000
/-! CM1: circulations in plain Lean: the words, and the passes. -/
namespace Circ
abbrev Arc := Int × Int × Int × Int
/-- beginning, end, worth, the arc's number, 1 or -1 -/
abbrev Half := Int × Int × Int × Int × Int
abbrev Val := Int × Int
def gO {α : Type} (l : List (Option α)) (p : Int) : Option α := l.getD p.toNat none
theorem gO_set {α : Type} {l : List (Option α)} {a b : Int} {x : Option α} (ha : 0 ≤ a) (hl : a < l.length) (hb : 0 ≤ b) : gO (l.set a.toNat x) b = if b = a then x else gO l b := by
  unfold gO
  rw [List.getD_eq_getElem?_getD, List.getD_eq_getElem?_getD]
  by_cases e : b = a
  · subst e
    rw [if_pos rfl, List.getElem?_set_self (by omega)]
    rfl
  · rw [if_neg e, List.getElem?_set_ne (by omega)]
def gI (l : List Int) (p : Int) : Int := l.getD p.toNat 0
theorem gI_set {l : List Int} {a b : Int} {x : Int} (ha : 0 ≤ a) (hl : a < l.length) (hb : 0 ≤ b) : gI (l.set a.toNat x) b = if b = a then x else gI l b := by
  unfold gI
  rw [List.getD_eq_getElem?_getD, List.getD_eq_getElem?_getD]
  by_cases e : b = a
  · subst e
    rw [if_pos rfl, List.getElem?_set_self (by omega)]
    rfl
  · rw [if_neg e, List.getElem?_set_ne (by omega)]
def halvesAt (x : Arc) (f : Int) (i : Nat) : List Half :=
  (if f < x.2.2.1 then [(x.1, x.2.1, x.2.2.2, (i : Int), 1)] else []) ++ (if 0 < f then [(x.2.1, x.1, 0 - x.2.2.2, (i : Int), -1)] else [])
def halvesM : List Arc → List Int → Nat → List Half
  | x :: xs, f :: fs, i => halvesAt x f i ++ halvesM xs fs (i + 1)
  | _, _, _ => []
theorem mem_halves {h : Half} : ∀ {xs : List Arc} {fs : List Int} {i : Nat}, h ∈ halvesM xs fs i ↔ ∃ j x f, xs[j]? = some x ∧ fs[j]? = some f ∧ h ∈ halvesAt x f (i + j)
  | [], fs, i => by simp [halvesM]
  | x :: xs, [], i => by simp [halvesM]
  | x :: xs, f :: fs, i => by
    rw [halvesM, List.mem_append, mem_halves]
    constructor
    · rintro (h | ⟨j, y, g, h1, h2, h3⟩)
      · exact ⟨0, x, f, rfl, rfl, h⟩
      · exact ⟨j + 1, y, g, h1, h2, by rw [show i + (j + 1) = i + 1 + j by omega]; exact h3⟩
    · rintro ⟨j, y, g, h1, h2, h3⟩
      cases j with
      | zero => cases h1; cases h2; exact .inl h3
      | succ j => exact .inr ⟨j, y, g, h1, h2, by rw [show i + 1 + j = i + (j + 1) by omega]; exact h3⟩
/-- what stands at half h: ahead, or back -/
theorem mem_at {x : Arc} {f : Int} {i : Nat} {h : Half} : h ∈ halvesAt x f i ↔ (f < x.2.2.1 ∧ h = (x.1, x.2.1, x.2.2.2, (i : Int), 1)) ∨ (0 < f ∧ h = (x.2.1, x.1, 0 - x.2.2.2, (i : Int), -1)) := by
  unfold halvesAt
  rw [List.mem_append]
  by_cases h1 : f < x.2.2.1 <;> by_cases h2 : 0 < f <;> simp [h1, h2]
structure MS where
  most : List (Option Val)
  came : List (Option Half)
  chg : Bool
def vlt (a b : Val) : Bool := decide (a.1 < b.1) || (decide (a.1 = b.1) && decide (a.2 < b.2))
theorem vlt_iff {a b : Val} : vlt a b = true ↔ a.1 < b.1 ∨ (a.1 = b.1 ∧ a.2 < b.2) := by
  unfold vlt
  simp
def moreV (v : Val) (h : Half) : Val := (v.1 + h.2.2.1, v.2 - 1)
def relax (s : MS) (h : Half) : MS :=
  match gO s.most h.1 with
  | none => s
  | some v =>
    match gO s.most h.2.1 with
    | none => ⟨s.most.set h.2.1.toNat (some (moreV v h)), s.came.set h.2.1.toNat (some h), true⟩
    | some u => if vlt u (moreV v h) = true then ⟨s.most.set h.2.1.toNat (some (moreV v h)), s.came.set h.2.1.toNat (some h), true⟩ else s
def passM (hs : List Half) (s : MS) : MS := hs.foldl relax ⟨s.most, s.came, false⟩
def waysN (hs : List Half) : Nat → MS → MS
  | 0, s => s
  | n + 1, s => if s.chg = true then waysN hs n (passM hs s) else s
open Classical in
noncomputable def waysF (hs : List Half) (s : MS) : MS := if h : ∃ n, (waysN hs n s).chg = false then waysN hs (Classical.choose h) s else s
def startM (many : Nat) (begins : List Int) : MS :=
  ⟨begins.foldl (fun l p => l.set p.toNat (some (0, 0))) (List.replicate many none), List.replicate many none, true⟩
/-- within the places -/
def InP (n : Nat) (p : Int) : Prop := 0 ≤ p ∧ p < n
def Good (n : Nat) (H : List Half) : Prop := ∀ h ∈ H, InP n h.1 ∧ InP n h.2.1
/-- prices that show that no round is worth anything -/
def Pot (π : Int → Int) (H : List Half) : Prop := ∀ h ∈ H, π h.1 + h.2.2.1 ≤ π h.2.1
structure Inv (n : Nat) (H : List Half) (B : List Int) (π : Int → Int) (M : Int) (s : MS) : Prop where
  ml : s.most.length = n
  cl : s.came.length = n
  neg : ∀ p v, gO s.most p = some v → v.2 ≤ 0
  cm : ∀ p h, 0 ≤ p → gO s.came p = some h → h ∈ H ∧ h.2.1 = p ∧ ∃ u v, gO s.most p = some u ∧ gO s.most h.1 = some v ∧ vlt (moreV v h) u = false
  cn : ∀ p v, 0 ≤ p → gO s.came p = none → gO s.most p = some v → p ∈ B ∧ v = (0, 0)
  bg : ∀ p ∈ B, ∃ v, gO s.most p = some v ∧ 0 ≤ v.1
  up : ∀ p v, 0 ≤ p → gO s.most p = some v → v.1 ≤ π p - M
theorem vlt_no {a b : Val} : vlt a b = false ↔ b.1 < a.1 ∨ (a.1 = b.1 ∧ b.2 ≤ a.2) := by
  rw [← Bool.not_eq_true, vlt_iff]
  omega
/-- what a relaxing does -/
theorem relax_cases (s : MS) (h : Half) : relax s h = s ∨ ∃ v, gO s.most h.1 = some v ∧ (∀ u, gO s.most h.2.1 = some u → vlt u (moreV v h) = true) ∧
    relax s h = ⟨s.most.set h.2.1.toNat (some (moreV v h)), s.came.set h.2.1.toNat (some h), true⟩ := by
  unfold relax
  cases e : gO s.most h.1 with
  | none => exact .inl rfl
  | some v =>
    cases e2 : gO s.most h.2.1 with
    | none => exact .inr ⟨v, rfl, fun u hu => (by cases hu), rfl⟩
    | some u =>
      by_cases c : vlt u (moreV v h) = true
      · refine .inr ⟨v, rfl, fun u' hu => ?_, ?_⟩
        · cases hu; exact c
        · show (if _ then _ else _) = _
          rw [if_pos c]
      · refine .inl ?_
        show (if _ then _ else _) = _
        rw [if_neg c]
section
variable {n : Nat} {H : List Half} {B : List Int} {π : Int → Int} {M : Int}
theorem Inv.relax {s : MS} (i : Inv n H B π M s) (g : Good n H) (pt : Pot π H) {h : Half} (hh : h ∈ H) : Inv n H B π M (relax s h) := by
  rcases relax_cases s h with e | ⟨v, hv, hu, e⟩
  · rw [e]; exact i
  · rw [e]
    obtain ⟨⟨a0, a1⟩, b0, b1⟩ := g h hh
    have hp := pt h hh
    have hm := i.ml
    have hc := i.cl
    have key : ∀ p, 0 ≤ p → gO (s.most.set h.2.1.toNat (some (moreV v h))) p = if p = h.2.1 then some (moreV v h) else gO s.most p := fun p p0 => gO_set b0 (by omega) p0
    have keyc : ∀ p, 0 ≤ p → gO (s.came.set h.2.1.toNat (some h)) p = if p = h.2.1 then some h else gO s.came p := fun p p0 => gO_set b0 (by omega) p0
    have nab : h.1 ≠ h.2.1 := fun z => by
      have := hu v (by rw [← z]; exact hv)
      rw [vlt_iff] at this
      simp only [moreV] at this
      rw [z] at hp
      omega
    refine ⟨by show (List.set _ _ _).length = n; rw [List.length_set]; exact hm, by show (List.set _ _ _).length = n; rw [List.length_set]; exact hc, fun p u hu' => ?_, fun p k p0 hk => ?_, fun p u p0 hk hu' => ?_, fun p hp' => ?_, fun p u p0 hu' => ?_⟩
    · by_cases p0 : 0 ≤ p
      · have hu' : gO (s.most.set h.2.1.toNat (some (moreV v h))) p = some u := hu'
        rw [key p p0] at hu'
        split at hu'
        · cases hu'
          have := i.neg _ _ hv
          simp only [moreV]; omega
        · exact i.neg _ _ hu'
      · have e0 : p.toNat = 0 := by omega
        have hu' : gO (s.most.set h.2.1.toNat (some (moreV v h))) p = some u := hu'
        have e1 : gO (s.most.set h.2.1.toNat (some (moreV v h))) p = gO (s.most.set h.2.1.toNat (some (moreV v h))) 0 := by unfold gO; rw [e0]; rfl
        rw [e1, key 0 (by omega)] at hu'
        split at hu'
        · cases hu'
          have := i.neg _ _ hv
          simp only [moreV]; omega
        · exact i.neg _ _ hu'
    · have hk : gO (s.came.set h.2.1.toNat (some h)) p = some k := hk
      show k ∈ H ∧ k.2.1 = p ∧ ∃ u w, gO (s.most.set h.2.1.toNat (some (moreV v h))) p = some u ∧ gO (s.most.set h.2.1.toNat (some (moreV v h))) k.1 = some w ∧ _
      rw [keyc p p0] at hk
      by_cases c : p = h.2.1
      · rw [if_pos c] at hk
        cases hk
        refine ⟨hh, c.symm, moreV v h, v, by rw [key p p0, if_pos c], by rw [key _ a0, if_neg nab]; exact hv, ?_⟩
        rw [vlt_no]; omega
      · rw [if_neg c] at hk
        obtain ⟨k1, k2, u, w, k3, k4, k5⟩ := i.cm p k p0 hk
        obtain ⟨⟨ka0, _⟩, _⟩ := g k k1
        by_cases c2 : k.1 = h.2.1
        · refine ⟨k1, k2, u, moreV v h, by rw [key p p0, if_neg c]; exact k3, by rw [key _ ka0, if_pos c2], ?_⟩
          have := hu w (by rw [← c2]; exact k4)
          rw [vlt_iff] at this
          rw [vlt_no] at k5 ⊢
          simp only [moreV] at *
          omega
        · exact ⟨k1, k2, u, w, by rw [key p p0, if_neg c]; exact k3, by rw [key _ ka0, if_neg c2]; exact k4, k5⟩
    · have hk : gO (s.came.set h.2.1.toNat (some h)) p = none := hk
      have hu' : gO (s.most.set h.2.1.toNat (some (moreV v h))) p = some u := hu'
      rw [keyc p p0] at hk
      rw [key p p0] at hu'
      by_cases c : p = h.2.1
      · rw [if_pos c] at hk; cases hk
      · rw [if_neg c] at hk hu'
        exact i.cn p u p0 hk hu'
    · show ∃ w, gO (s.most.set h.2.1.toNat (some (moreV v h))) p = some w ∧ 0 ≤ w.1
      obtain ⟨w, hw, w0⟩ := i.bg p hp'
      by_cases p0 : 0 ≤ p
      · rw [key p p0]
        by_cases c : p = h.2.1
        · rw [if_pos c]
          have := hu w (by rw [← c]; exact hw)
          rw [vlt_iff] at this
          exact ⟨_, rfl, by omega⟩
        · rw [if_neg c]; exact ⟨w, hw, w0⟩
      · have e0 : p.toNat = 0 := by omega
        have e1 : gO (s.most.set h.2.1.toNat (some (moreV v h))) p = gO (s.most.set h.2.1.toNat (some (moreV v h))) 0 := by unfold gO; rw [e0]; rfl
        have e2 : gO s.most p = gO s.most 0 := by unfold gO; rw [e0]; rfl
        rw [e2] at hw
        rw [e1, key 0 (by omega)]
        by_cases c : 0 = h.2.1
        · rw [if_pos c]
          have := hu w (by rw [← c]; exact hw)
          rw [vlt_iff] at this
          exact ⟨_, rfl, by omega⟩
        · rw [if_neg c]; exact ⟨w, hw, w0⟩
    · have hu' : gO (s.most.set h.2.1.toNat (some (moreV v h))) p = some u := hu'
      rw [key p p0] at hu'
      by_cases c : p = h.2.1
      · rw [if_pos c] at hu'
        cases hu'
        have := i.up _ _ a0 hv
        simp only [moreV]
        rw [c]
        omega
      · rw [if_neg c] at hu'
        exact i.up _ _ p0 hu'
end
/-! ### sums over the places -/
def sumN (f : Nat → Nat) : Nat → Nat
  | 0 => 0
  | n + 1 => sumN f n + f n
theorem sumN_congr {f g : Nat → Nat} : ∀ {n : Nat}, (∀ i, i < n → f i = g i) → sumN f n = sumN g n
  | 0, _ => rfl
  | n + 1, h => by rw [sumN, sumN, sumN_congr fun i hi => h i (by omega), h n (by omega)]
theorem sumN_upd {f g : Nat → Nat} {b : Nat} : ∀ {n : Nat}, b < n → (∀ i, i < n → i ≠ b → f i = g i) → sumN f n + g b = sumN g n + f b
  | n + 1, hb, h => by
    rw [sumN, sumN]
    by_cases e : b = n
    · subst e
      rw [sumN_congr fun i hi => h i (by omega) (by omega)]
      omega
    · have := sumN_upd (f := f) (g := g) (n := n) (by omega) fun i hi hn => h i (by omega) hn
      rw [h n (by omega) (by omega)]
      omega
theorem lex3 {α : Type} (A B C : α → Nat) (P : α → Prop) (h : ∀ s, (∀ t, (A t < A s ∨ (A t = A s ∧ (B t < B s ∨ (B t = B s ∧ C t < C s)))) → P t) → P s) : ∀ s, P s := by
  have h1 : ∀ a s, A s = a → P s := by
    intro a
    induction a using Nat.strongRecOn with
    | _ a iha =>
      have h2 : ∀ b s, A s = a → B s = b → P s := by
        intro b
        induction b using Nat.strongRecOn with
        | _ b ihb =>
          have h3 : ∀ c s, A s = a → B s = b → C s = c → P s := by
            intro c
            induction c using Nat.strongRecOn with
            | _ c ihc =>
              intro s ea eb ec
              refine h s fun t ht => ?_
              rcases ht with h | ⟨e, h | ⟨e2, h⟩⟩
              · exact iha _ (by omega) t rfl
              · exact ihb _ (by omega) t (by omega) rfl
              · exact ihc _ (by omega) t (by omega) (by omega) rfl
          exact fun s ea eb => h3 _ s ea eb rfl
      exact fun s ea => h2 _ s ea rfl
  exact fun s => h1 _ s rfl
/-! ### the passes end -/
def isN (o : Option Val) : Nat := match o with | none => 1 | some _ => 0
def slk (π : Int → Int) (M : Int) (p : Nat) (o : Option Val) : Nat := match o with | none => 0 | some v => (π p - M - v.1).toNat
def cnt (o : Option Val) : Nat := match o with | none => 0 | some v => (-v.2).toNat
def mA (n : Nat) (s : MS) : Nat := sumN (fun p => isN (gO s.most p)) n
def mB (n : Nat) (π : Int → Int) (M : Int) (s : MS) : Nat := sumN (fun p => slk π M p (gO s.most p)) n
def mC (n : Nat) (s : MS) : Nat := sumN (fun p => cnt (gO s.most p)) n
def lt3 (n : Nat) (π : Int → Int) (M : Int) (t s : MS) : Prop := mA n t < mA n s ∨ (mA n t = mA n s ∧ (mB n π M t < mB n π M s ∨ (mB n π M t = mB n π M s ∧ mC n t < mC n s)))
section
variable {n : Nat} {H : List Half} {B : List Int} {π : Int → Int} {M : Int}
theorem lt3_trans {s t u : MS} (h1 : lt3 n π M u t) (h2 : lt3 n π M t s) : lt3 n π M u s := by
  unfold lt3 at *
  omega
/-- a relaxing that changes makes it less -/
theorem relax_lt {s : MS} (i : Inv n H B π M s) (g : Good n H) (pt : Pot π H) {h : Half} (hh : h ∈ H) : relax s h = s ∨ (lt3 n π M (relax s h) s ∧ (relax s h).chg = true) := by
  have i2 := i.relax g pt hh
  rcases relax_cases s h with e | ⟨v, hv, hu, e⟩
  · exact .inl e
  · refine .inr ⟨?_, by rw [e]⟩
    obtain ⟨⟨a0, a1⟩, b0, b1⟩ := g h hh
    have hm := i.ml
    obtain ⟨b, hb⟩ : ∃ b : Nat, h.2.1 = (b : Int) := ⟨h.2.1.toNat, by omega⟩
    have key : ∀ p : Nat, gO (relax s h).most p = if p = b then some (moreV v h) else gO s.most p := fun p => by
      rw [e]
      show gO (s.most.set h.2.1.toNat (some (moreV v h))) p = _
      rw [gO_set b0 (by omega) (by omega), hb]
      by_cases c : p = b
      · rw [if_pos (by omega), if_pos c]
      · rw [if_neg (by omega), if_neg c]
    have u1 := i2.up b (moreV v h) (by omega) (by rw [key b, if_pos rfl])
    have n1 := i2.neg b (moreV v h) (by rw [key b, if_pos rfl])
    have A1 : mA n (relax s h) + isN (gO s.most b) = mA n s + isN (gO (relax s h).most b) := sumN_upd (f := fun p => isN (gO (relax s h).most p)) (g := fun p => isN (gO s.most p)) (b := b) (by omega) fun j _ hj => by
      show isN _ = isN _
      rw [key j, if_neg hj]
    have B1 : mB n π M (relax s h) + slk π M b (gO s.most b) = mB n π M s + slk π M b (gO (relax s h).most b) := sumN_upd (f := fun p => slk π M p (gO (relax s h).most p)) (g := fun p => slk π M p (gO s.most p)) (b := b) (by omega) fun j _ hj => by
      show slk π M j _ = slk π M j _
      rw [key j, if_neg hj]
    have C1 : mC n (relax s h) + cnt (gO s.most b) = mC n s + cnt (gO (relax s h).most b) := sumN_upd (f := fun p => cnt (gO (relax s h).most p)) (g := fun p => cnt (gO s.most p)) (b := b) (by omega) fun j _ hj => by
      show cnt _ = cnt _
      rw [key j, if_neg hj]
    rw [key b, if_pos rfl] at A1 B1 C1
    rw [hb] at hu
    unfold lt3
    cases e3 : gO s.most b with
    | none =>
      rw [e3] at A1
      simp only [isN] at A1
      omega
    | some u =>
      have k1 := hu u e3
      have k2 := i.up b u (by omega) e3
      have k3 := i.neg b u e3
      rw [e3] at A1 B1 C1
      rw [vlt_iff] at k1
      simp only [isN, slk, cnt] at A1 B1 C1
      rcases k1 with k1 | ⟨k1, k4⟩
      · right
        refine ⟨by omega, .inl ?_⟩
        omega
      · right
        refine ⟨by omega, .inr ⟨by omega, ?_⟩⟩
        omega
def Fix (H : List Half) (s : MS) : Prop := ∀ h ∈ H, relax s h = s
/-- a row of relaxings: nothing, or less -/
theorem fold_lt (g : Good n H) (pt : Pot π H) : ∀ {hs : List Half} {s : MS}, (∀ h ∈ hs, h ∈ H) → Inv n H B π M s →
    Inv n H B π M (hs.foldl relax s) ∧ ((hs.foldl relax s = s ∧ ∀ h ∈ hs, relax s h = s) ∨ (lt3 n π M (hs.foldl relax s) s ∧ (hs.foldl relax s).chg = true))
  | [], s, _, i => ⟨i, .inl ⟨rfl, fun h hh => by cases hh⟩⟩
  | h :: hs, s, hH, i => by
    have hh := hH h (by simp)
    have i2 := i.relax g pt hh
    obtain ⟨j, r⟩ := fold_lt g pt (hs := hs) (s := relax s h) (fun k hk => hH k (by simp [hk])) i2
    refine ⟨j, ?_⟩
    rw [List.foldl_cons]
    rcases relax_lt i g pt hh with e | ⟨l, c⟩
    · rw [e] at r ⊢
      rcases r with ⟨r1, r2⟩ | r
      · refine .inl ⟨r1, fun k hk => ?_⟩
        rcases List.mem_cons.mp hk with rfl | hk
        · exact e
        · exact r2 k hk
      · exact .inr r
    · rcases r with ⟨r1, r2⟩ | ⟨r1, r2⟩
      · refine .inr ⟨by rw [r1]; exact l, by rw [r1]; exact c⟩
      · exact .inr ⟨lt3_trans r1 l, r2⟩
theorem Inv.flag {s : MS} {b : Bool} (i : Inv n H B π M s) : Inv n H B π M ⟨s.most, s.came, b⟩ := ⟨i.ml, i.cl, i.neg, i.cm, i.cn, i.bg, i.up⟩
theorem pass_lt (g : Good n H) (pt : Pot π H) {s : MS} (i : Inv n H B π M s) : Inv n H B π M (passM H s) ∧ (((passM H s).chg = false ∧ Fix H (passM H s)) ∨ (lt3 n π M (passM H s) s ∧ (passM H s).chg = true)) := by
  obtain ⟨j, r⟩ := fold_lt g pt (hs := H) (s := ⟨s.most, s.came, false⟩) (fun _ h => h) i.flag
  refine ⟨j, ?_⟩
  rcases r with ⟨r1, r2⟩ | r
  · left
    unfold passM
    rw [r1]
    exact ⟨rfl, r2⟩
  · exact .inr r
theorem ways_end (g : Good n H) (pt : Pot π H) : ∀ s : MS, s.chg = true → Inv n H B π M s → ∃ m, (waysN H m s).chg = false ∧ Inv n H B π M (waysN H m s) ∧ Fix H (waysN H m s) := by
  refine lex3 (mA n) (mB n π M) (mC n) _ fun s ih hc i => ?_
  obtain ⟨j, r⟩ := pass_lt g pt i
  rcases r with ⟨r1, r2⟩ | ⟨r1, r2⟩
  · refine ⟨1, ?_⟩
    have : waysN H 1 s = passM H s := by
      show (if _ then _ else _) = _
      rw [if_pos hc]
      rfl
    rw [this]
    exact ⟨r1, j, r2⟩
  · obtain ⟨m, h1, h2, h3⟩ := ih _ r1 r2 j
    refine ⟨m + 1, ?_⟩
    have : waysN H (m + 1) s = waysN H m (passM H s) := by
      show (if _ then _ else _) = _
      rw [if_pos hc]
    rw [this]
    exact ⟨h1, h2, h3⟩
end
theorem waysN_done {hs : List Half} : ∀ {n : Nat} {s : MS}, s.chg = false → waysN hs n s = s
  | 0, s, _ => rfl
  | n + 1, s, h => by
    show (if _ then _ else _) = _
    rw [if_neg (by rw [h]; decide)]
theorem waysN_one {hs : List Half} : ∀ {n m : Nat} {s : MS}, (waysN hs n s).chg = false → (waysN hs m s).chg = false → waysN hs n s = waysN hs m s
  | 0, m, s, h, _ => (waysN_done h).symm
  | n + 1, 0, s, _, h => waysN_done h
  | n + 1, m + 1, s, h1, h2 => by
    by_cases c : s.chg = true
    · rw [waysN, if_pos c] at h1 ⊢
      rw [waysN, if_pos c] at h2 ⊢
      exact waysN_one h1 h2
    · have c : s.chg = false := by cases e : s.chg with | true => exact absurd e c | false => rfl
      rw [waysN_done c, waysN_done c]
theorem waysF_eq {hs : List Half} {m : Nat} {s : MS} (h : (waysN hs m s).chg = false) : waysF hs s = waysN hs m s := by
  unfold waysF
  rw [dif_pos ⟨m, h⟩]
  exact waysN_one (Classical.choose_spec (⟨m, h⟩ : ∃ n, (waysN hs n s).chg = false)) h
end Circ

set_option Elab.async false
set_option linter.all false
set_option maxRecDepth 100000
set_option maxHeartbeats 1000000
/-! CM2: the way back, what is sent along it. -/
namespace Circ
/-! ### the start -/
theorem gO_rep {α : Type} {n : Nat} {p : Int} : gO (List.replicate n (none : Option α)) p = none := by
  unfold gO
  rw [List.getD_eq_getElem?_getD]
  by_cases h : p.toNat < n
  · rw [List.getElem?_replicate_of_lt h]; rfl
  · rw [List.getElem?_eq_none (by rw [List.length_replicate]; omega)]; rfl
theorem begs_len : ∀ {B : List Int} {l : List (Option Val)}, (B.foldl (fun l p => l.set p.toNat (some (0, 0))) l).length = l.length
  | [], l => rfl
  | b :: B, l => by rw [List.foldl_cons, begs_len, List.length_set]
theorem begs_get {n : Nat} : ∀ {B : List Int} {l : List (Option Val)} {p : Int}, l.length = n → (∀ b ∈ B, InP n b) → 0 ≤ p →
    gO (B.foldl (fun l p => l.set p.toNat (some (0, 0))) l) p = if p ∈ B then some (0, 0) else gO l p
  | [], l, p, _, _, _ => by simp
  | b :: B, l, p, hl, hB, hp => by
    have hb := hB b (by simp)
    have hb1 := hb.1
    have hb2 := hb.2
    rw [List.foldl_cons, begs_get (n := n) (by rw [List.length_set]; exact hl) (fun c hc => hB c (by simp [hc])) hp, gO_set hb1 (by omega) hp]
    by_cases e : p ∈ B
    · simp [e]
    · by_cases e2 : p = b <;> simp [e, e2]
section
variable {n : Nat} {H : List Half} {B : List Int} {π : Int → Int} {M : Int}
theorem Inv.start (hB : ∀ b ∈ B, InP n b) (hM : ∀ b ∈ B, M ≤ π b) : Inv n H B π M (startM n B) := by
  have key : ∀ p, 0 ≤ p → gO (startM n B).most p = if p ∈ B then some (0, 0) else none := fun p hp => by
    show gO (B.foldl _ _) p = _
    rw [begs_get (n := n) List.length_replicate hB hp, gO_rep]
  have kc : ∀ p, gO (startM n B).came p = none := fun p => gO_rep
  have key0 : ∀ p v, gO (startM n B).most p = some v → v = (0, 0) := fun p v h => by
    have e : gO (startM n B).most p = gO (startM n B).most (p.toNat : Int) := by unfold gO; rw [Int.toNat_natCast]
    rw [e, key _ (by omega)] at h
    split at h
    · cases h; rfl
    · cases h
  refine ⟨?_, List.length_replicate, fun p v h => (by rw [key0 p v h]; decide), fun p h hp hh => (by rw [kc] at hh; cases hh), fun p v hp _ hv => ?_, fun p hp => ?_, fun p v hp hv => ?_⟩
  · show (B.foldl (fun l p => l.set p.toNat (some ((0, 0) : Val))) (List.replicate n none)).length = n
    rw [begs_len, List.length_replicate]
  · have := key0 p v hv
    rw [key p hp] at hv
    split at hv
    · exact ⟨by assumption, this⟩
    · cases hv
  · exact ⟨(0, 0), by rw [key p (hB p hp).1, if_pos hp], by decide⟩
  · have e := key0 p v hv
    rw [key p hp] at hv
    split at hv
    · have := hM p (by assumption)
      rw [e]
      show (0 : Int) ≤ _
      omega
    · cases hv
theorem low (π : Int → Int) : ∀ n : Nat, ∃ M, ∀ p, InP n p → M ≤ π p
  | 0 => ⟨0, fun p h => by have h1 := h.1; have h2 := h.2; omega⟩
  | n + 1 => by
    obtain ⟨M, h⟩ := low π n
    refine ⟨min M (π n), fun p hp => ?_⟩
    have h1 := hp.1
    have h2 := hp.2
    by_cases e : p = n
    · rw [e]; omega
    · have := h p ⟨h1, by omega⟩
      omega
/-- the passes' answer -/
theorem ways_ok (g : Good n H) (pt : Pot π H) (hB : ∀ b ∈ B, InP n b) : ∃ m M, (waysN H m (startM n B)).chg = false ∧ waysF H (startM n B) = waysN H m (startM n B) ∧
    Inv n H B π M (waysF H (startM n B)) ∧ Fix H (waysF H (startM n B)) := by
  obtain ⟨M, hM⟩ := low π n
  obtain ⟨m, h1, h2, h3⟩ := ways_end g pt (startM n B) rfl (Inv.start (M := M) hB fun b hb => hM b (hB b hb))
  have e := waysF_eq h1
  exact ⟨m, M, h1, e, by rw [e]; exact h2, by rw [e]; exact h3⟩
theorem Fix.half {s : MS} (i : Inv n H B π M s) (f : Fix H s) (g : Good n H) {h : Half} (hh : h ∈ H) {v : Val} (hv : gO s.most h.1 = some v) : ∃ u, gO s.most h.2.1 = some u ∧ vlt u (moreV v h) = false := by
  have e := f h hh
  obtain ⟨⟨a0, a1⟩, b0, b1⟩ := g h hh
  rcases relax_cases s h with _ | ⟨w, hw, hu, e2⟩
  · unfold relax at e
    rw [hv] at e
    cases e3 : gO s.most h.2.1 with
    | none =>
      rw [e3] at e
      have e4 : s.most.set h.2.1.toNat (some (moreV v h)) = s.most := congrArg MS.most e
      have := gO_set (l := s.most) (x := some (moreV v h)) b0 (by rw [i.ml]; exact b1) b0
      rw [e4, e3, if_pos rfl] at this
      cases this
    | some u =>
      refine ⟨u, rfl, ?_⟩
      cases c : vlt u (moreV v h) with
      | false => rfl
      | true =>
        rw [e3] at e
        have e : (if vlt u (moreV v h) = true then (⟨s.most.set h.2.1.toNat (some (moreV v h)), s.came.set h.2.1.toNat (some h), true⟩ : MS) else s) = s := e
        rw [if_pos c] at e
        have e4 : s.most.set h.2.1.toNat (some (moreV v h)) = s.most := congrArg MS.most e
        have := gO_set (l := s.most) (x := some (moreV v h)) b0 (by rw [i.ml]; exact b1) b0
        rw [e4, e3, if_pos rfl] at this
        cases this
        rw [vlt_iff] at c
        omega
  · rw [hv] at hw
    cases hw
    rw [e2] at e
    have e4 : s.most.set h.2.1.toNat (some (moreV v h)) = s.most := congrArg MS.most e
    have := gO_set (l := s.most) (x := some (moreV v h)) b0 (by rw [i.ml]; exact b1) b0
    rw [e4, if_pos rfl] at this
    have := hu _ this
    rw [vlt_iff] at this
    omega
/-- how a place was come to -/
theorem Fix.came {s : MS} (i : Inv n H B π M s) (f : Fix H s) (g : Good n H) {p : Int} (hp : 0 ≤ p) {h : Half} (hc : gO s.came p = some h) : h ∈ H ∧ h.2.1 = p ∧ ∃ v, gO s.most h.1 = some v ∧ gO s.most p = some (moreV v h) := by
  obtain ⟨k1, k2, u, v, k3, k4, k5⟩ := i.cm p h hp hc
  obtain ⟨w, hw, k6⟩ := f.half i g k1 k4
  rw [k2, k3] at hw
  cases hw
  refine ⟨k1, k2, v, k4, ?_⟩
  rw [k3]
  rw [vlt_no] at k5 k6
  congr 1
  exact Prod.ext (by omega) (by omega)
end
/-! ### the way back -/
inductive Chain (came : List (Option Half)) : Int → List Half → Int → Prop
  | nil {p : Int} : gO came p = none → Chain came p [] p
  | cons {p q : Int} {h : Half} {hs : List Half} : gO came p = some h → Chain came h.1 hs q → Chain came p (h :: hs) q
theorem Chain.one {came : List (Option Half)} {p q : Int} {hs : List Half} (c : Chain came p hs q) : ∀ {hs' : List Half} {q' : Int}, Chain came p hs' q' → hs = hs' ∧ q = q' := by
  induction c with
  | nil h =>
    intro hs' q' c'
    cases c' with
    | nil _ => exact ⟨rfl, rfl⟩
    | cons h' _ => rw [h] at h'; cases h'
  | cons h c ih =>
    intro hs' q' c'
    cases c' with
    | nil h' => rw [h] at h'; cases h'
    | cons h' c' =>
      rw [h] at h'
      cases h'
      obtain ⟨e1, e2⟩ := ih c'
      exact ⟨by rw [e1], e2⟩
open Classical in
noncomputable def wayF (came : List (Option Half)) (p : Int) : List Half := if h : ∃ hs q, Chain came p hs q then Classical.choose h else []
theorem wayF_eq {came : List (Option Half)} {p q : Int} {hs : List Half} (c : Chain came p hs q) : wayF came p = hs := by
  have h : ∃ hs q, Chain came p hs q := ⟨hs, q, c⟩
  unfold wayF
  rw [dif_pos h]
  obtain ⟨q', c'⟩ := Classical.choose_spec h
  exact (c'.one c).1
/-- how far each half is behind the beginning -/
def Steps (s : MS) (hs : List Half) : Prop := ∀ h ∈ hs, ∃ v, gO s.most h.1 = some v ∧ gO s.most h.2.1 = some (moreV v h)
section
variable {n : Nat} {H : List Half} {B : List Int} {π : Int → Int} {M : Int}
theorem chain_of {s : MS} (i : Inv n H B π M s) (f : Fix H s) (g : Good n H) : ∀ (k : Nat) (p : Int) (v : Val), 0 ≤ p → gO s.most p = some v → (-v.2).toNat = k →
    ∃ hs q, Chain s.came p hs q ∧ hs.length = k ∧ q ∈ B ∧ gO s.came q = none ∧ (∀ h ∈ hs, h ∈ H) ∧ Steps s hs ∧ (∀ h ∈ hs, ∀ u, gO s.most h.2.1 = some u → v.2 ≤ u.2) ∧
      hs.Pairwise (fun a b => ∀ u w, gO s.most a.2.1 = some u → gO s.most b.2.1 = some w → u.2 < w.2)
  | 0, p, v, hp, hv, hk => by
    have hn := i.neg p v hv
    cases hc : gO s.came p with
    | none =>
      exact ⟨[], p, .nil hc, rfl, (i.cn p v hp hc hv).1, hc, fun h hh => (by cases hh), fun h hh => (by cases hh), fun h hh => (by cases hh), .nil⟩
    | some h =>
      obtain ⟨_, _, w, hw, e⟩ := f.came i g hp hc
      rw [hv] at e
      cases e
      have := i.neg _ _ hw
      simp only [moreV] at hk hn
      omega
  | k + 1, p, v, hp, hv, hk => by
    cases hc : gO s.came p with
    | none =>
      obtain ⟨_, e⟩ := i.cn p v hp hc hv
      rw [e] at hk
      exact absurd hk (by show ¬ (-(0 : Int)).toNat = k + 1; omega)
    | some h =>
      obtain ⟨k1, k2, w, hw, e⟩ := f.came i g hp hc
      obtain ⟨⟨a0, a1⟩, b0, b1⟩ := g h k1
      have ev : v = moreV w h := by rw [hv] at e; cases e; rfl
      have ev2 : v.2 = w.2 - 1 := by rw [ev]; rfl
      obtain ⟨hs, q, c, hl, hq, hq2, hH, hS, hu, hpw⟩ := chain_of i f g k h.1 w a0 hw (by omega)
      refine ⟨h :: hs, q, .cons hc c, by rw [List.length_cons, hl], hq, hq2, fun x hx => ?_, fun x hx => ?_, fun x hx u hxu => ?_, List.pairwise_cons.mpr ⟨fun b hb u y hu' hy => ?_, hpw⟩⟩
      · rcases List.mem_cons.mp hx with rfl | hx
        · exact k1
        · exact hH x hx
      · rcases List.mem_cons.mp hx with rfl | hx
        · exact ⟨w, hw, by rw [k2]; exact e⟩
        · exact hS x hx
      · rcases List.mem_cons.mp hx with rfl | hx
        · rw [k2, hv] at hxu
          cases hxu
          omega
        · have := hu x hx u hxu
          omega
      · rw [k2, hv] at hu'
        cases hu'
        have := hu b hb y hy
        omega
end
/-! ### what is sent along -/
def sgn (p q : Int) : Int := if p = q then 1 else 0
/-- the half's arc -/
def HalfOf (arcs : List Arc) (h : Half) : Prop := ∃ (j : Nat) (x : Arc), arcs[j]? = some x ∧ h.2.2.2.1 = (j : Int) ∧ ((h.1 = x.1 ∧ h.2.1 = x.2.1 ∧ h.2.2.1 = x.2.2.2 ∧ h.2.2.2.2 = 1) ∨ (h.1 = x.2.1 ∧ h.2.1 = x.1 ∧ h.2.2.1 = 0 - x.2.2.2 ∧ h.2.2.2.2 = -1))
theorem halfOf {arcs : List Arc} {fl : List Int} {h : Half} (hh : h ∈ halvesM arcs fl 0) : HalfOf arcs h := by
  obtain ⟨j, x, f, h1, h2, h3⟩ := mem_halves.mp hh
  rw [mem_at] at h3
  refine ⟨j, x, h1, ?_⟩
  rcases h3 with ⟨_, e⟩ | ⟨_, e⟩
  · rw [e]; exact ⟨by simp, .inl ⟨rfl, rfl, rfl, rfl⟩⟩
  · rw [e]; exact ⟨by simp, .inr ⟨rfl, rfl, rfl, rfl⟩⟩
/-- how much more comes than goes -/
def spareF : List Arc → List Int → Int → Int
  | x :: xs, f :: fs, p => f * (sgn x.2.1 p - sgn x.1 p) + spareF xs fs p
  | _, _, _ => 0
theorem spareF_set : ∀ {arcs : List Arc} {fl : List Int} {j : Nat} {x : Arc} {c p : Int}, arcs[j]? = some x → fl.length = arcs.length →
    spareF arcs (fl.set j (fl.getD j 0 + c)) p = spareF arcs fl p + c * (sgn x.2.1 p - sgn x.1 p)
  | [], _, j, x, c, p, h, _ => by simp at h
  | y :: ys, [], j, x, c, p, _, h => by cases h
  | y :: ys, f :: fs, 0, x, c, p, h, hl => by
    have e : y = x := by simpa using h
    subst e
    show (f + c) * _ + _ = f * _ + _ + _
    rw [Int.add_mul]
    omega
  | y :: ys, f :: fs, j + 1, x, c, p, h, hl => by
    have := spareF_set (arcs := ys) (fl := fs) (j := j) (x := x) (c := c) (p := p) (by simpa using h) (by simpa using hl)
    show f * _ + spareF ys (fs.set j ((f :: fs).getD (j + 1) 0 + c)) p = f * _ + spareF ys fs p + _
    rw [List.getD_cons_succ, this]
    omega
def sendM (d : Int) (fl : List Int) (h : Half) : List Int := fl.set h.2.2.2.1.toNat (gI fl h.2.2.2.1 + h.2.2.2.2 * d)
theorem send_len {d : Int} : ∀ {hs : List Half} {fl : List Int}, (hs.foldl (sendM d) fl).length = fl.length
  | [], fl => rfl
  | h :: hs, fl => by rw [List.foldl_cons, send_len]; exact List.length_set
theorem send_spare {arcs : List Arc} {d p : Int} {came : List (Option Half)} {a q : Int} {hs : List Half} (c : Chain came a hs q) (hc : ∀ p h, 0 ≤ p → gO came p = some h → h ∈ hs → h.2.1 = p) : 0 ≤ a → (∀ h ∈ hs, 0 ≤ h.1) → ∀ {fl : List Int}, fl.length = arcs.length → (∀ h ∈ hs, HalfOf arcs h) →
    spareF arcs (hs.foldl (sendM d) fl) p = spareF arcs fl p + d * (sgn a p - sgn q p) := by
  induction c with
  | nil _ => intro _ _ fl _ _; simp
  | @cons b q h hs e c ih =>
    intro p0 q0 fl hl hh
    rw [List.foldl_cons, ih (fun p k pp hp hk => hc p k pp hp (by simp [hk])) (q0 h (by simp)) (fun k hk => q0 k (by simp [hk])) (by show (List.set _ _ _).length = _; rw [List.length_set]; exact hl) (fun k hk => hh k (by simp [hk]))]
    obtain ⟨j, x, h1, h2, h3⟩ := hh h (by simp)
    have eb := hc b h p0 e (by simp)
    have := spareF_set (arcs := arcs) (fl := fl) (j := j) (x := x) (c := h.2.2.2.2 * d) (p := p) h1 hl
    have e2 : sendM d fl h = fl.set j (fl.getD j 0 + h.2.2.2.2 * d) := by
      unfold sendM gI
      rw [h2]
      rfl
    rw [e2, this]
    rcases h3 with ⟨r1, r2, _, r4⟩ | ⟨r1, r2, _, r4⟩
    · rw [r4, ← r1, ← r2, eb]
      have e5 : d * (sgn b p - sgn q p) = d * (sgn b p - sgn h.1 p) + d * (sgn h.1 p - sgn q p) := by rw [← Int.mul_add]; congr 1; omega
      rw [e5, Int.one_mul]
      omega
    · rw [r4, ← r1, ← r2, eb]
      have e5 : d * (sgn b p - sgn q p) = d * (sgn b p - sgn h.1 p) + d * (sgn h.1 p - sgn q p) := by rw [← Int.mul_add]; congr 1; omega
      have e6 : -1 * d * (sgn h.1 p - sgn b p) = d * (sgn b p - sgn h.1 p) := by rw [Int.neg_mul, Int.one_mul, Int.neg_mul, ← Int.mul_neg]; congr 1; omega
      rw [e5, e6]
      omega
/-- each arc's flow behind -/
theorem send_get {d : Int} : ∀ {hs : List Half} {fl : List Int} {j : Nat}, (∀ h ∈ hs, 0 ≤ h.2.2.2.1 ∧ h.2.2.2.1 < fl.length) → hs.Pairwise (fun a b => a.2.2.2.1 ≠ b.2.2.2.1) → j < fl.length →
    ((∀ h ∈ hs, h.2.2.2.1 ≠ (j : Int)) ∧ gI (hs.foldl (sendM d) fl) j = gI fl j) ∨ ∃ h ∈ hs, h.2.2.2.1 = (j : Int) ∧ gI (hs.foldl (sendM d) fl) j = gI fl j + h.2.2.2.2 * d
  | [], fl, j, _, _, _ => .inl ⟨fun h hh => (by cases hh), rfl⟩
  | h :: hs, fl, j, hr, hp, hj => by
    obtain ⟨hp1, hp2⟩ := List.pairwise_cons.mp hp
    have hr0 := hr h (by simp)
    have hlen : (sendM d fl h).length = fl.length := List.length_set
    have key : gI (sendM d fl h) j = if (j : Int) = h.2.2.2.1 then gI fl h.2.2.2.1 + h.2.2.2.2 * d else gI fl j := gI_set hr0.1 hr0.2 (by omega)
    rw [List.foldl_cons]
    rcases send_get (d := d) (hs := hs) (fl := sendM d fl h) (j := j) (fun k hk => by rw [hlen]; exact hr k (by simp [hk])) hp2 (by omega) with ⟨r1, r2⟩ | ⟨k, hk, r1, r2⟩
    · by_cases e : (j : Int) = h.2.2.2.1
      · refine .inr ⟨h, by simp, e.symm, ?_⟩
        rw [r2, key, if_pos e, e]
      · refine .inl ⟨fun k hk => ?_, by rw [r2, key, if_neg e]⟩
        rcases List.mem_cons.mp hk with rfl | hk
        · exact fun z => e z.symm
        · exact r1 k hk
    · refine .inr ⟨k, by simp [hk], r1, ?_⟩
      have : (j : Int) ≠ h.2.2.2.1 := fun z => hp1 k hk (by rw [r1, z])
      rw [r2, key, if_neg this]
end Circ

set_option Elab.async false
set_option linter.all false
set_option maxRecDepth 100000
set_option maxHeartbeats 1000000
/-! CM3: a step of a circulation, and its end. -/
namespace Circ
def GoodA (n : Nat) (arcs : List Arc) : Prop := ∀ x ∈ arcs, InP n x.1 ∧ InP n x.2.1 ∧ 0 ≤ x.2.2.1
/-! ### sums -/
def sumZ (f : Nat → Int) : Nat → Int
  | 0 => 0
  | n + 1 => sumZ f n + f n
theorem sumZ_congr {f g : Nat → Int} : ∀ {n : Nat}, (∀ i, i < n → f i = g i) → sumZ f n = sumZ g n
  | 0, _ => rfl
  | n + 1, h => by rw [sumZ, sumZ, sumZ_congr fun i hi => h i (by omega), h n (by omega)]
theorem sumZ_add {f g : Nat → Int} : ∀ {n : Nat}, sumZ (fun i => f i + g i) n = sumZ f n + sumZ g n
  | 0 => rfl
  | n + 1 => by rw [sumZ, sumZ, sumZ, sumZ_add]; omega
theorem sumZ_zero : ∀ {n : Nat}, sumZ (fun _ => 0) n = 0
  | 0 => rfl
  | n + 1 => by rw [sumZ, sumZ_zero]; rfl
theorem sumZ_nn {f : Nat → Int} : ∀ {n : Nat}, (∀ i, i < n → 0 ≤ f i) → 0 ≤ sumZ f n
  | 0, _ => Int.le_refl _
  | n + 1, h => by
    have h1 := sumZ_nn (f := f) (n := n) fun i hi => h i (by omega)
    have h2 := h n (by omega)
    rw [sumZ]; omega
theorem sumZ_ge {f : Nat → Int} {j : Nat} : ∀ {n : Nat}, (∀ i, i < n → 0 ≤ f i) → j < n → f j ≤ sumZ f n
  | n + 1, h, hj => by
    rw [sumZ]
    by_cases e : j = n
    · have := sumZ_nn (f := f) (n := n) fun i hi => h i (by omega)
      rw [e]; omega
    · have := sumZ_ge (f := f) (j := j) (n := n) (fun i hi => h i (by omega)) (by omega)
      have := h n (by omega)
      omega
theorem sumZ_neg {f : Nat → Int} : ∀ {n : Nat}, sumZ (fun i => - f i) n = - sumZ f n
  | 0 => rfl
  | n + 1 => by rw [sumZ, sumZ, sumZ_neg]; omega
theorem sumZ_sgn {r : Int → Int} {a c : Int} : ∀ {n : Nat}, InP n a → sumZ (fun p => r p * (c * sgn a p)) n = c * r a
  | 0, h => by have h1 := h.1; have h2 := h.2; omega
  | n + 1, h => by
    have h1 := h.1
    have h2 := h.2
    rw [sumZ]
    by_cases e : a = n
    · have : sumZ (fun p => r p * (c * sgn a p)) n = 0 := by
        rw [sumZ_congr (g := fun _ => 0) fun i hi => ?_, sumZ_zero]
        show r i * (c * sgn a i) = 0
        unfold sgn
        rw [if_neg (by omega)]
        simp
      rw [this, e]
      unfold sgn
      rw [if_pos rfl, Int.mul_one, Int.mul_comm]
      omega
    · rw [sumZ_sgn (n := n) ⟨h1, by omega⟩]
      unfold sgn
      rw [if_neg e]
      simp
def arcSum (r : Int → Int) : List Arc → List Int → Int
  | x :: xs, f :: fs => f * (r x.2.1 - r x.1) + arcSum r xs fs
  | _, _ => 0
theorem dual {n : Nat} {r : Int → Int} : ∀ {arcs : List Arc} {fl : List Int}, GoodA n arcs → sumZ (fun p => r p * spareF arcs fl p) n = arcSum r arcs fl
  | [], fl, _ => by
    rw [sumZ_congr (g := fun _ => 0) fun i _ => ?_, sumZ_zero]
    · rfl
    · show r i * 0 = 0
      simp
  | x :: xs, [], _ => by
    rw [sumZ_congr (g := fun _ => 0) fun i _ => ?_, sumZ_zero]
    · rfl
    · show r i * 0 = 0
      simp
  | x :: xs, f :: fs, h => by
    obtain ⟨h1, h2, _⟩ := h x (by simp)
    have ih := dual (n := n) (r := r) (arcs := xs) (fl := fs) fun y hy => h y (by simp [hy])
    show sumZ (fun p => r p * (f * (sgn x.2.1 p - sgn x.1 p) + spareF xs fs p)) n = f * (r x.2.1 - r x.1) + arcSum r xs fs
    rw [sumZ_congr (g := fun p => (r p * (f * sgn x.2.1 p) + -(r p * (f * sgn x.1 p))) + r p * spareF xs fs p) fun i _ => ?_, sumZ_add, sumZ_add, sumZ_neg, sumZ_sgn h2, sumZ_sgn h1, ih, Int.mul_sub]
    · omega
    · show r i * (f * (sgn x.2.1 i - sgn x.1 i) + spareF xs fs i) = _
      rw [Int.mul_add, Int.mul_sub, Int.mul_sub]
      omega
/-! ### the words of a step -/
def begsM (n : Nat) (sp : List Int) : List Int := ((List.range n).filter fun (i : Nat) => decide (gI sp (i : Nat) > 0)).map fun (i : Nat) => (i : Int)
def endsM (n : Nat) (sp : List Int) (most : List (Option Val)) : List (Val × Int) :=
  ((List.range n).filter fun (i : Nat) => decide (gI sp (i : Nat) < 0) && (gO most (i : Nat)).isSome).map fun (i : Nat) => ((gO most (i : Nat)).getD (0, 0), 0 - (i : Int))
def ltE (a b : Val × Int) : Bool := vlt a.1 b.1 || (decide (a.1 = b.1) && decide (a.2 < b.2))
def maxE (x : Val × Int) (xs : List (Val × Int)) : Val × Int := xs.foldl (fun a y => if ltE a y = true then y else a) x
theorem maxE_mem : ∀ {xs : List (Val × Int)} {x : Val × Int}, maxE x xs ∈ x :: xs
  | [], x => by simp [maxE]
  | y :: ys, x => by
    show maxE (if ltE x y = true then y else x) ys ∈ _
    have := maxE_mem (xs := ys) (x := if ltE x y = true then y else x)
    by_cases c : ltE x y = true
    · rw [if_pos c] at this ⊢
      exact List.mem_cons_of_mem _ this
    · rw [if_neg c] at this ⊢
      rcases List.mem_cons.mp this with h | h
      · rw [h]; simp
      · simp [h]
def endM : List (Val × Int) → Int
  | [] => 0
  | x :: xs => 0 - (maxE x xs).2
def half0 : Half := (0, 0, 0, 0, 0)
def arc0 : Arc := (0, 0, 0, 0)
def roomH (arcs : List Arc) (fl : List Int) (h : Half) : Int := if h.2.2.2.2 = 1 then (arcs.getD h.2.2.2.1.toNat arc0).2.2.1 - gI fl h.2.2.2.1 else gI fl h.2.2.2.1
def begW (way : List Half) : Int := (way.getLastD half0).1
def endW (way : List Half) : Int := (way.headD half0).2.1
def roomsM (arcs : List Arc) (fl sp : List Int) (way : List Half) : List Int := gI sp (begW way) :: (0 - gI sp (endW way)) :: way.map (roomH arcs fl)
def minZ : List Int → Int
  | [] => 0
  | x :: xs => xs.foldl min x
theorem fold_min : ∀ {xs : List Int} {x : Int}, xs.foldl min x ≤ x ∧ (∀ y ∈ xs, xs.foldl min x ≤ y) ∧ xs.foldl min x ∈ x :: xs
  | [], x => ⟨Int.le_refl _, fun y h => (by cases h), by simp⟩
  | z :: zs, x => by
    obtain ⟨h1, h2, h3⟩ := fold_min (xs := zs) (x := min x z)
    rw [List.foldl_cons]
    refine ⟨by omega, fun y hy => ?_, ?_⟩
    · rcases List.mem_cons.mp hy with rfl | hy
      · omega
      · exact h2 y hy
    · rcases List.mem_cons.mp h3 with h | h
      · rw [h]
        rcases Int.le_total x z with c | c
        · rw [Int.min_eq_left c]; simp
        · rw [Int.min_eq_right c]; simp
      · simp [h]
theorem minZ_le {xs : List Int} {y : Int} (h : y ∈ xs) : minZ xs ≤ y := by
  cases xs with
  | nil => cases h
  | cons x xs =>
    rcases List.mem_cons.mp h with rfl | h
    · exact fold_min.1
    · exact fold_min.2.1 y h
theorem minZ_mem {xs : List Int} (h : xs ≠ []) : minZ xs ∈ xs := by
  cases xs with
  | nil => exact absurd rfl h
  | cons x xs => exact fold_min.2.2
theorem minZ_eq {xs : List Int} {m : Int} (h1 : m ∈ xs) (h2 : ∀ y ∈ xs, m ≤ y) : m = minZ xs :=
  Int.le_antisymm (h2 _ (minZ_mem fun e => by rw [e] at h1; cases h1)) (minZ_le h1)
def ledS (sp : List Int) (b e d : Int) : List Int := (sp.set b.toNat (gI sp b - d)).set e.toNat (gI (sp.set b.toNat (gI sp b - d)) e + d)
abbrev CSt := List Int × List Int
def ledM (arcs : List Arc) (s : CSt) (way : List Half) : CSt :=
  (way.foldl (sendM (minZ (roomsM arcs s.1 s.2 way))) s.1, ledS s.2 (begW way) (endW way) (minZ (roomsM arcs s.1 s.2 way)))
noncomputable def waysC (n : Nat) (arcs : List Arc) (s : CSt) : MS := waysF (halvesM arcs s.1 0) (startM n (begsM n s.2))
noncomputable def stepM (n : Nat) (arcs : List Arc) (s : CSt) : CSt :=
  ledM arcs s (wayF (waysC n arcs s).came (endM (endsM n s.2 (waysC n arcs s).most)))
structure CI (n : Nat) (arcs : List Arc) (s : CSt) : Prop where
  fl : s.1.length = arcs.length
  sl : s.2.length = n
  bd : ∀ (j : Nat) (x : Arc), arcs[j]? = some x → 0 ≤ gI s.1 j ∧ gI s.1 j ≤ x.2.2.1
  sp : ∀ p, InP n p → gI s.2 p = spareF arcs s.1 p
  pt : ∃ π, Pot π (halvesM arcs s.1 0)
def tot (n : Nat) (s : CSt) : Nat := sumN (fun p => (gI s.2 p).toNat) n
section
variable {n : Nat} {arcs : List Arc}
theorem good_halves (g : GoodA n arcs) (fl : List Int) : Good n (halvesM arcs fl 0) := fun h hh => by
  obtain ⟨j, x, h1, _, h3⟩ := halfOf hh
  obtain ⟨g1, g2, _⟩ := g x (List.mem_of_getElem? h1)
  rcases h3 with ⟨r1, r2, _⟩ | ⟨r1, r2, _⟩
  · rw [r1, r2]; exact ⟨g1, g2⟩
  · rw [r1, r2]; exact ⟨g2, g1⟩
theorem begs_mem {sp : List Int} {b : Int} : b ∈ begsM n sp ↔ InP n b ∧ 0 < gI sp b := by
  unfold begsM
  rw [List.mem_map]
  constructor
  · rintro ⟨i, hi, rfl⟩
    rw [List.mem_filter, List.mem_range, decide_eq_true_iff] at hi
    exact ⟨⟨by omega, by omega⟩, hi.2⟩
  · rintro ⟨⟨h1, h2⟩, h3⟩
    refine ⟨b.toNat, ?_, by omega⟩
    rw [List.mem_filter, List.mem_range, decide_eq_true_iff]
    refine ⟨by omega, ?_⟩
    rw [show ((b.toNat : Nat) : Int) = b by omega]
    exact h3
theorem ends_mem {sp : List Int} {most : List (Option Val)} {e : Val × Int} : e ∈ endsM n sp most ↔ InP n (0 - e.2) ∧ gI sp (0 - e.2) < 0 ∧ gO most (0 - e.2) = some e.1 := by
  unfold endsM
  rw [List.mem_map]
  constructor
  · rintro ⟨i, hi, rfl⟩
    rw [List.mem_filter, List.mem_range, Bool.and_eq_true, decide_eq_true_iff] at hi
    show InP n (0 - (0 - (i : Int))) ∧ gI sp (0 - (0 - (i : Int))) < 0 ∧ gO most (0 - (0 - (i : Int))) = some _
    rw [show (0 - (0 - (i : Int))) = (i : Int) by omega]
    refine ⟨⟨by omega, by omega⟩, hi.2.1, ?_⟩
    obtain ⟨v, hv⟩ := Option.isSome_iff_exists.mp hi.2.2
    rw [hv]; rfl
  · rintro ⟨⟨h1, h2⟩, h3, h4⟩
    refine ⟨(0 - e.2).toNat, ?_, ?_⟩
    · rw [List.mem_filter, List.mem_range, Bool.and_eq_true, decide_eq_true_iff]
      rw [show (((0 - e.2).toNat : Nat) : Int) = 0 - e.2 by omega]
      exact ⟨by omega, h3, by rw [h4]; rfl⟩
    · rw [show (((0 - e.2).toNat : Nat) : Int) = 0 - e.2 by omega, h4]
      exact Prod.ext rfl (by show 0 - (0 - e.2) = e.2; omega)
/-- some place that lacks is come to -/
theorem ends_some (g : GoodA n arcs) {s : CSt} (c : CI n arcs s) (hb : begsM n s.2 ≠ []) {H : List Half} (eH : halvesM arcs s.1 0 = H) {π : Int → Int} {M : Int} {t : MS} (i : Inv n H (begsM n s.2) π M t) (f : Fix H t) : endsM n s.2 t.most ≠ [] := by
  intro he
  have gH : Good n H := eH ▸ good_halves g s.1
  obtain ⟨b, hbm⟩ := List.exists_mem_of_ne_nil _ hb
  obtain ⟨⟨b0, b1⟩, b2⟩ := begs_mem.mp hbm
  obtain ⟨v, hv, _⟩ := i.bg b hbm
  let r : Int → Int := fun p => if (gO t.most p).isSome then 1 else 0
  have rb : r b = 1 := by show (if _ then _ else _) = _; rw [hv]; rfl
  have hr : ∀ p, InP n p → r p = 1 → 0 ≤ gI s.2 p := fun p hp h1 => by
    rcases Int.lt_or_le (gI s.2 p) 0 with h | h
    · exfalso
      have hs : (gO t.most p).isSome = true := by
        cases e : (gO t.most p).isSome with
        | true => rfl
        | false =>
          have h1 : (if (gO t.most p).isSome then (1 : Int) else 0) = 1 := h1
          rw [e] at h1
          cases h1
      obtain ⟨w, hw⟩ := Option.isSome_iff_exists.mp hs
      have : (w, 0 - p) ∈ endsM n s.2 t.most := ends_mem.mpr (by
        show InP n (0 - (0 - p)) ∧ gI s.2 (0 - (0 - p)) < 0 ∧ gO t.most (0 - (0 - p)) = some w
        rw [show 0 - (0 - p) = p by omega]
        exact ⟨hp, h, hw⟩)
      rw [he] at this
      cases this
    · exact h
  have r01 : ∀ p, r p = 0 ∨ r p = 1 := fun p => by
    show (if _ then _ else _) = _ ∨ (if _ then _ else _) = _
    split <;> simp
  have h1 : 0 < sumZ (fun p => r p * spareF arcs s.1 p) n := by
    have h2 := sumZ_ge (f := fun p => r p * spareF arcs s.1 p) (j := b.toNat) (n := n) (fun p hp => by
      show 0 ≤ r p * spareF arcs s.1 p
      rw [← c.sp p ⟨by omega, by omega⟩]
      rcases r01 p with e | e
      · rw [e]; simp
      · have := hr p ⟨by omega, by omega⟩ e
        rw [e]; omega) (by omega)
    have h3 : r (b.toNat : Nat) * spareF arcs s.1 (b.toNat : Nat) = gI s.2 b := by
      rw [show ((b.toNat : Nat) : Int) = b by omega, rb, c.sp b ⟨b0, b1⟩]
      omega
    have h2 : r (b.toNat : Nat) * spareF arcs s.1 (b.toNat : Nat) ≤ _ := h2
    rw [h3] at h2
    omega
  rw [dual g] at h1
  have h4 : ∀ (as : List Arc) (fs : List Int), (∀ (j : Nat) x f, as[j]? = some x → fs[j]? = some f → 0 ≤ f ∧ (r x.2.1 = 1 → r x.1 = 0 → f = 0)) → arcSum r as fs ≤ 0 := by
    intro as
    induction as with
    | nil => intro fs _; exact Int.le_refl _
    | cons x xs ih =>
      intro fs h
      cases fs with
      | nil => exact Int.le_refl _
      | cons y ys =>
        obtain ⟨p1, p2⟩ := h 0 x y rfl rfl
        have := ih ys fun j x f hx hf => h (j + 1) x f hx hf
        show y * (r x.2.1 - r x.1) + arcSum r xs ys ≤ 0
        rcases r01 x.2.1 with e1 | e1 <;> rcases r01 x.1 with e2 | e2 <;> rw [e1, e2]
        · simpa using this
        · omega
        · have := p2 e1 e2
          rw [this]; simpa using ‹arcSum r xs ys ≤ 0›
        · simpa using this
  have := h4 arcs s.1 fun j x f hx hf => by
    have eg : gI s.1 j = f := by unfold gI; rw [List.getD_eq_getElem?_getD]; simp [hf]
    obtain ⟨p1, p2⟩ := c.bd j x hx
    rw [eg] at p1 p2
    refine ⟨p1, fun q1 q2 => ?_⟩
    rcases Int.lt_or_le 0 f with h | h
    · exfalso
      have hm : ((x.2.1, x.1, 0 - x.2.2.2, (j : Int), -1) : Half) ∈ H := by
        rw [← eH]
        exact mem_halves.mpr ⟨j, x, f, hx, hf, mem_at.mpr (.inr ⟨h, by simp⟩)⟩
      have hs : (gO t.most x.2.1).isSome = true := by
        cases e : (gO t.most x.2.1).isSome with
        | true => rfl
        | false =>
          have q1 : (if (gO t.most x.2.1).isSome then (1 : Int) else 0) = 1 := q1
          rw [e] at q1
          cases q1
      obtain ⟨w, hw⟩ := Option.isSome_iff_exists.mp hs
      obtain ⟨u, hu, _⟩ := Fix.half i ‹Fix H t› gH hm hw
      have q2 : (if (gO t.most x.1).isSome then (1 : Int) else 0) = 0 := q2
      rw [show gO t.most x.1 = some u from hu] at q2
      cases q2
    · omega
  omega
end
end Circ

set_option Elab.async false
set_option linter.all false
set_option maxRecDepth 100000
set_option maxHeartbeats 1000000
/-! CM4: a step keeps what holds; the whole. -/
namespace Circ
theorem chain_last {came : List (Option Half)} {p q : Int} {hs : List Half} (c : Chain came p hs q) : hs ≠ [] → begW hs = q := by
  induction c with
  | nil _ => exact fun h => absurd rfl h
  | @cons p q h hs e c ih =>
    intro _
    cases hs with
    | nil =>
      cases c with
      | nil _ => rfl
    | cons k ks =>
      have := ih (by simp)
      unfold begW at this ⊢
      rw [← this]
      rfl
theorem gI_of {l : List Int} {j : Nat} {x : Int} (h : l[j]? = some x) : gI l j = x := by
  unfold gI
  rw [List.getD_eq_getElem?_getD]
  simp [h]
theorem getD_of {arcs : List Arc} {j : Nat} {x : Arc} (h : arcs[j]? = some x) : arcs.getD j arc0 = x := by
  rw [List.getD_eq_getElem?_getD, h]; rfl
/-- what a step needs and does -/
structure StepF (n : Nat) (arcs : List Arc) (s : CSt) (t : MS) (e : Int) (way : List Half) (b : Int) : Prop where
  ends : endsM n s.2 t.most ≠ []
  eq : e = endM (endsM n s.2 t.most)
  chain : Chain t.came e way b
  ne : way ≠ []
  be : InP n b
  ee : InP n e
  bs : 0 < gI s.2 b
  es : gI s.2 e < 0
  bw : begW way = b
  ew : endW way = e
  cl : t.came.length = n
  ml : t.most.length = n
  on : ∀ h ∈ way, HalfOf arcs h
  inp : ∀ h ∈ way, InP n h.1 ∧ InP n h.2.1
  room : ∀ h ∈ way, 1 ≤ roomH arcs s.1 h ∧ ∀ (j : Nat) (x : Arc), arcs[j]? = some x → h.2.2.2.1 = (j : Int) → roomH arcs s.1 h ≤ x.2.2.1
  dist : way.Pairwise fun a b => a.2.2.2.1 ≠ b.2.2.2.1
  steps : Steps t way
  back : ∀ p h, 0 ≤ p → gO t.came p = some h → h ∈ way → h.2.1 = p
section
variable {n : Nat} {arcs : List Arc}
theorem CI.stepF (g : GoodA n arcs) {s : CSt} (c : CI n arcs s) (hb : begsM n s.2 ≠ []) : ∃ m M π b, Pot π (halvesM arcs s.1 0) ∧ (waysN (halvesM arcs s.1 0) m (startM n (begsM n s.2))).chg = false ∧
    waysC n arcs s = waysN (halvesM arcs s.1 0) m (startM n (begsM n s.2)) ∧ Inv n (halvesM arcs s.1 0) (begsM n s.2) π M (waysC n arcs s) ∧ Fix (halvesM arcs s.1 0) (waysC n arcs s) ∧
    StepF n arcs s (waysC n arcs s) (endM (endsM n s.2 (waysC n arcs s).most)) (wayF (waysC n arcs s).came (endM (endsM n s.2 (waysC n arcs s).most))) b := by
  obtain ⟨π, hπ⟩ := c.pt
  have gH := good_halves g s.1
  obtain ⟨m, M, h1, h2, h3, h4⟩ := ways_ok gH hπ (B := begsM n s.2) fun b hb => (begs_mem.mp hb).1
  have h2 : waysC n arcs s = _ := h2
  have h3 : Inv _ _ _ _ _ (waysC n arcs s) := h3
  have h4 : Fix _ (waysC n arcs s) := h4
  have ne := ends_some g c hb rfl h3 h4
  generalize waysC n arcs s = t at *
  obtain ⟨x, xs, hx⟩ : ∃ x xs, endsM n s.2 t.most = x :: xs := by
    cases h : endsM n s.2 t.most with
    | nil => exact absurd h ne
    | cons x xs => exact ⟨x, xs, rfl⟩
  have hm : maxE x xs ∈ endsM n s.2 t.most := by rw [hx]; exact maxE_mem
  obtain ⟨q1, q2, q3⟩ := ends_mem.mp hm
  have he : endM (endsM n s.2 t.most) = 0 - (maxE x xs).2 := by rw [hx]; rfl
  generalize hee : endM (endsM n s.2 t.most) = e at *
  rw [← he] at q1 q2 q3
  obtain ⟨hs, b, ch, _, hbB, hbc, hH, hS, hu, hpw⟩ := chain_of h3 h4 gH _ e _ q1.1 q3 rfl
  obtain ⟨b1, b2⟩ := begs_mem.mp hbB
  rw [wayF_eq ch]
  have hne : hs ≠ [] := fun z => by
    subst z
    cases ch with
    | nil _ => omega
  have hback : ∀ p h, 0 ≤ p → gO t.came p = some h → h ∈ hs → h.2.1 = p := fun p h p0 hp hh => (h4.came h3 gH p0 hp).2.1
  refine ⟨m, M, π, b, hπ, h1, h2, h3, h4, ⟨ne, hee.symm, ch, hne, b1, q1, b2, q2, chain_last ch hne, ?_, h3.cl, h3.ml, fun h hh => halfOf (hH h hh), fun h hh => gH h (hH h hh), fun h hh => ?_, ?_, hS, hback⟩⟩
  · cases ch with
    | nil _ => exact absurd rfl hne
    | cons hk _ => exact hback _ _ q1.1 hk (by simp)
  · obtain ⟨j, x, f, e1, e2, e3⟩ := mem_halves.mp (hH h hh)
    have ef := gI_of e2
    obtain ⟨f0, f1⟩ := c.bd j x e1
    rw [ef] at f0 f1
    rw [mem_at] at e3
    rw [Nat.zero_add] at e3
    have ex := getD_of e1
    have nj : ∀ (j' : Nat) (x' : Arc), arcs[j']? = some x' → h.2.2.2.1 = (j' : Int) → h.2.2.2.1 = (j : Int) → x' = x := fun j' x' a b d => by
      have : j' = j := by omega
      subst this
      rw [e1] at a; cases a; rfl
    rcases e3 with ⟨g1, g2⟩ | ⟨g1, g2⟩
    · have : roomH arcs s.1 h = x.2.2.1 - f := by
        unfold roomH
        rw [g2]
        show (if (1 : Int) = 1 then (arcs.getD ((j : Int).toNat) arc0).2.2.1 - gI s.1 (j : Int) else _) = _
        rw [if_pos rfl, Int.toNat_natCast, ex, ef]
      rw [this]
      refine ⟨by omega, fun j' x' a b => ?_⟩
      rw [nj j' x' a b (by rw [g2])]
      omega
    · have : roomH arcs s.1 h = f := by
        unfold roomH
        rw [g2]
        show (if (-1 : Int) = 1 then _ else gI s.1 (j : Int)) = _
        rw [if_neg (by decide), ef]
      rw [this]
      refine ⟨by omega, fun j' x' a b => ?_⟩
      rw [nj j' x' a b (by rw [g2])]
      omega
  · refine List.Pairwise.imp_of_mem ?_ hpw
    intro a k ha hk hlt hnum
    obtain ⟨u, hu1, hu2⟩ := hS a ha
    obtain ⟨w, hw1, hw2⟩ := hS k hk
    have := hlt _ _ hu2 hw2
    obtain ⟨j, x, a1, a2, a3⟩ := halfOf (hH a ha)
    obtain ⟨j', x', k1, k2, k3⟩ := halfOf (hH k hk)
    have ej : j' = j := by omega
    subst ej
    rw [a1] at k1
    cases k1
    rcases a3 with ⟨r1, r2, _⟩ | ⟨r1, r2, _⟩ <;> rcases k3 with ⟨z1, z2, _⟩ | ⟨z1, z2, _⟩
    · rw [r2] at hu2; rw [z2] at hw2
      rw [hu2] at hw2
      have q := congrArg Prod.snd (Option.some.inj hw2)
      simp only [moreV] at q this
      omega
    · rw [r2] at hu2; rw [r1] at hu1; rw [z2] at hw2; rw [z1] at hw1
      rw [hu1] at hw2; rw [hu2] at hw1
      have q := congrArg Prod.snd (Option.some.inj hw2)
      have q2 := congrArg Prod.snd (Option.some.inj hw1)
      simp only [moreV] at q q2 this
      omega
    · rw [r2] at hu2; rw [r1] at hu1; rw [z2] at hw2; rw [z1] at hw1
      rw [hu1] at hw2; rw [hu2] at hw1
      have q := congrArg Prod.snd (Option.some.inj hw2)
      have q2 := congrArg Prod.snd (Option.some.inj hw1)
      simp only [moreV] at q q2 this
      omega
    · rw [r2] at hu2; rw [z2] at hw2
      rw [hu2] at hw2
      have q := congrArg Prod.snd (Option.some.inj hw2)
      simp only [moreV] at q this
      omega
theorem ledS_get {sp : List Int} {b e d p : Int} (hl : sp.length = n) (hb : InP n b) (he : InP n e) (hne : b ≠ e) (hp : InP n p) : gI (ledS sp b e d) p = gI sp p + d * (sgn e p - sgn b p) := by
  have b0 := hb.1
  have b1 := hb.2
  have e0 := he.1
  have e1 := he.2
  have p0 := hp.1
  unfold ledS
  rw [gI_set e0 (by rw [List.length_set]; omega) p0]
  unfold sgn
  by_cases c : p = e
  · subst c
    rw [if_pos rfl, gI_set b0 (by omega) e0, if_neg hne.symm, if_pos rfl, if_neg hne]
    omega
  · rw [if_neg c, gI_set b0 (by omega) p0, if_neg (show ¬ e = p from fun z => c z.symm)]
    by_cases c2 : p = b
    · subst c2
      rw [if_pos rfl, if_pos rfl]; omega
    · rw [if_neg c2, if_neg (show ¬ b = p from fun z => c2 z.symm)]; omega
/-- a step keeps what holds, and makes less what is too much -/
theorem CI.next (g : GoodA n arcs) {s : CSt} (c : CI n arcs s) (hb : begsM n s.2 ≠ []) : CI n arcs (stepM n arcs s) ∧ tot n (stepM n arcs s) < tot n s := by
  obtain ⟨m, M, π, b, hπ, h1, h2, h3, h4, F⟩ := c.stepF g hb
  have gH := good_halves g s.1
  unfold stepM
  generalize hway : wayF (waysC n arcs s).came (endM (endsM n s.2 (waysC n arcs s).most)) = way at *
  generalize heq : endM (endsM n s.2 (waysC n arcs s).most) = e at *
  clear h1 h2
  generalize waysC n arcs s = t at *
  unfold ledM
  rw [F.bw, F.ew]
  have hd : ∀ y ∈ roomsM arcs s.1 s.2 way, minZ (roomsM arcs s.1 s.2 way) ≤ y := fun y hy => minZ_le hy
  have hr : roomsM arcs s.1 s.2 way = gI s.2 b :: (0 - gI s.2 e) :: way.map (roomH arcs s.1) := by unfold roomsM; rw [F.bw, F.ew]
  have hd0 : 1 ≤ minZ (roomsM arcs s.1 s.2 way) := by
    have := minZ_mem (xs := roomsM arcs s.1 s.2 way) (by rw [hr]; simp)
    rw [hr] at this ⊢
    rcases List.mem_cons.mp this with h | h
    · rw [h]; have := F.bs; omega
    · rcases List.mem_cons.mp h with h | h
      · rw [h]; have := F.es; omega
      · obtain ⟨k, hk, hk2⟩ := List.mem_map.mp h
        rw [← hk2]
        exact (F.room k hk).1
  generalize minZ (roomsM arcs s.1 s.2 way) = d at *
  rw [hr] at hd
  have hdb := hd (gI s.2 b) (by simp)
  have hde := hd (0 - gI s.2 e) (by simp)
  have hdw : ∀ k ∈ way, d ≤ roomH arcs s.1 k := fun k hk => hd _ (by simp only [List.mem_cons, List.mem_map]; exact .inr (.inr ⟨k, hk, rfl⟩))
  have hbe : b ≠ e := fun z => by
    have p1 := F.bs
    have p2 := F.es
    rw [z] at p1
    omega
  have hnum : ∀ k ∈ way, 0 ≤ k.2.2.2.1 ∧ k.2.2.2.1 < s.1.length := fun k hk => by
    obtain ⟨j, x, e1, e2, _⟩ := F.on k hk
    have := (List.getElem?_eq_some_iff.mp e1).1
    have := c.fl
    omega
  have hget := fun (j : Nat) (hj : j < s.1.length) => send_get (d := d) hnum F.dist hj
  have hroom : ∀ k ∈ way, ∀ (j : Nat) (x : Arc), arcs[j]? = some x → k.2.2.2.1 = (j : Int) → (k.2.2.2.2 = 1 ∧ k.1 = x.1 ∧ k.2.1 = x.2.1 ∧ k.2.2.1 = x.2.2.2 ∧ d ≤ x.2.2.1 - gI s.1 j) ∨ (k.2.2.2.2 = -1 ∧ k.1 = x.2.1 ∧ k.2.1 = x.1 ∧ k.2.2.1 = 0 - x.2.2.2 ∧ d ≤ gI s.1 j) := fun k hk j x hx hj => by
    obtain ⟨j', x', e1, e2, e3⟩ := F.on k hk
    have ej : j' = j := by omega
    subst ej
    rw [hx] at e1
    cases e1
    have hroom := hdw k hk
    unfold roomH at hroom
    rcases e3 with ⟨r1, r2, r3, r4⟩ | ⟨r1, r2, r3, r4⟩
    · left
      rw [if_pos r4, e2, Int.toNat_natCast, getD_of hx] at hroom
      exact ⟨r4, r1, r2, r3, hroom⟩
    · right
      rw [if_neg (by rw [r4]; decide), e2] at hroom
      exact ⟨r4, r1, r2, r3, hroom⟩
  have hsp : ∀ p, InP n p → gI (ledS s.2 b e d) p = gI s.2 p + d * (sgn e p - sgn b p) := fun p hp => ledS_get c.sl F.be F.ee hbe hp
  refine ⟨⟨?_, ?_, fun j x hx => ?_, fun p hp => ?_, ?_⟩, ?_⟩
  · show (way.foldl (sendM d) s.1).length = _
    rw [send_len]; exact c.fl
  · show (ledS s.2 b e d).length = n
    unfold ledS
    rw [List.length_set, List.length_set]; exact c.sl
  · have hj : j < s.1.length := by rw [c.fl]; exact (List.getElem?_eq_some_iff.mp hx).1
    obtain ⟨b0, b1⟩ := c.bd j x hx
    show 0 ≤ gI (way.foldl (sendM d) s.1) j ∧ gI (way.foldl (sendM d) s.1) j ≤ _
    rcases hget j hj with ⟨_, e1⟩ | ⟨k, hk, e1, e2⟩
    · rw [e1]; exact ⟨b0, b1⟩
    · rw [e2]
      rcases hroom k hk j x hx e1 with ⟨r, _, _, _, r2⟩ | ⟨r, _, _, _, r2⟩
      · rw [r]; omega
      · rw [r]; omega
  · show gI (ledS s.2 b e d) p = spareF arcs (way.foldl (sendM d) s.1) p
    rw [hsp p hp, send_spare F.chain F.back F.ee.1 (fun h hh => (F.inp h hh).1.1) c.fl F.on, c.sp p hp]
  · obtain ⟨π2, hπ2⟩ := c.pt
    obtain ⟨L, hL⟩ : ∃ L : Int, ∀ h ∈ halvesM arcs s.1 0, ∀ v, gO t.most h.2.1 = some v → π2 h.1 - L + h.2.2.1 ≤ v.1 := by
      have : ∀ hs : List Half, ∃ L : Int, ∀ h ∈ hs, ∀ v, gO t.most h.2.1 = some v → π2 h.1 - L + h.2.2.1 ≤ v.1 := by
        intro hs
        induction hs with
        | nil => exact ⟨0, fun h hh => (by cases hh)⟩
        | cons k ks ih =>
          obtain ⟨L, hL⟩ := ih
          cases ek : gO t.most k.2.1 with
          | none =>
            refine ⟨L, fun h hh v hv => ?_⟩
            rcases List.mem_cons.mp hh with rfl | hh
            · rw [ek] at hv; cases hv
            · exact hL h hh v hv
          | some w =>
            refine ⟨max L (π2 k.1 + k.2.2.1 - w.1), fun h hh v hv => ?_⟩
            rcases List.mem_cons.mp hh with rfl | hh
            · rw [ek] at hv; cases hv; omega
            · have := hL h hh v hv; omega
      exact this _
    refine ⟨fun p => match gO t.most p with | some v => v.1 | none => π2 p - L, fun h hh => ?_⟩
    have old : ∀ h ∈ halvesM arcs s.1 0, (match gO t.most h.1 with | some v => v.1 | none => π2 h.1 - L) + h.2.2.1 ≤ (match gO t.most h.2.1 with | some v => v.1 | none => π2 h.2.1 - L) := fun h hh => by
      cases e1 : gO t.most h.1 with
      | some v =>
        obtain ⟨u, hu, hlt⟩ := h4.half h3 gH hh e1
        rw [hu]
        rw [vlt_no] at hlt
        simp only [moreV] at hlt
        show v.1 + h.2.2.1 ≤ u.1
        omega
      | none =>
        cases e2 : gO t.most h.2.1 with
        | some w => exact hL h hh w e2
        | none =>
          have := hπ2 h hh
          show π2 h.1 - L + h.2.2.1 ≤ π2 h.2.1 - L
          omega
    obtain ⟨j, x, f, e1, e2, e3⟩ := mem_halves.mp hh
    rw [Nat.zero_add, mem_at] at e3
    have hj : j < s.1.length := by rw [c.fl]; exact (List.getElem?_eq_some_iff.mp e1).1
    have ef : gI (way.foldl (sendM d) s.1) j = f := gI_of e2
    obtain ⟨f0, hf0⟩ : ∃ f0, s.1[j]? = some f0 := ⟨_, List.getElem?_eq_getElem hj⟩
    have ef0 := gI_of hf0
    rcases hget j hj with ⟨_, r2⟩ | ⟨k, hk, r1, r2⟩
    · have : f = f0 := by rw [← ef, r2, ef0]
      subst this
      exact old h (mem_halves.mpr ⟨j, x, f, e1, hf0, by rw [Nat.zero_add, mem_at]; exact e3⟩)
    · obtain ⟨v, v1, v2⟩ := F.steps k hk
      rw [ef, ef0] at r2
      rcases hroom k hk j x e1 r1 with ⟨z1, z2, z3, z4, z5⟩ | ⟨z1, z2, z3, z4, z5⟩
      · rcases e3 with ⟨q1, q2⟩ | ⟨q1, q2⟩
        · exact old h (mem_halves.mpr ⟨j, x, f0, e1, hf0, by rw [Nat.zero_add, mem_at]; exact .inl ⟨by rw [z1] at r2; omega, q2⟩⟩)
        · rw [q2]
          rw [z2] at v1
          rw [z3] at v2
          show (match gO t.most x.2.1 with | some v => v.1 | none => π2 x.2.1 - L) + (0 - x.2.2.2) ≤ (match gO t.most x.1 with | some v => v.1 | none => π2 x.1 - L)
          rw [v1, v2]
          show v.1 + k.2.2.1 + (0 - x.2.2.2) ≤ v.1
          omega
      · rcases e3 with ⟨q1, q2⟩ | ⟨q1, q2⟩
        · rw [q2]
          rw [z2] at v1
          rw [z3] at v2
          show (match gO t.most x.1 with | some v => v.1 | none => π2 x.1 - L) + x.2.2.2 ≤ (match gO t.most x.2.1 with | some v => v.1 | none => π2 x.2.1 - L)
          rw [v1, v2]
          show v.1 + k.2.2.1 + x.2.2.2 ≤ v.1
          omega
        · exact old h (mem_halves.mpr ⟨j, x, f0, e1, hf0, by rw [Nat.zero_add, mem_at]; exact .inr ⟨by rw [z1] at r2; omega, q2⟩⟩)
  · unfold tot
    show sumN (fun p => (gI (ledS s.2 b e d) p).toNat) n < sumN (fun p => (gI s.2 p).toNat) n
    have hb0 := F.be.1
    have hb1 := F.be.2
    have he0 := F.ee.1
    have he1 := F.ee.2
    have := sumN_upd (f := fun p => (gI (ledS s.2 b e d) p).toNat) (g := fun p => (gI s.2 p).toNat) (b := b.toNat) (n := n) (by omega) fun i hi hn => by
      show (gI (ledS s.2 b e d) i).toNat = (gI s.2 i).toNat
      rw [hsp i ⟨by omega, by omega⟩]
      unfold sgn
      rw [if_neg (show ¬ b = (i : Int) by omega)]
      by_cases c : e = i
      · rw [if_pos c, ← c]
        have := F.es
        omega
      · rw [if_neg c]; simp
    have e1 : (gI (ledS s.2 b e d) (b.toNat : Nat)).toNat = (gI s.2 b - d).toNat := by
      rw [show ((b.toNat : Nat) : Int) = b by omega, hsp b F.be]
      unfold sgn
      rw [if_neg hbe.symm, if_pos rfl]
      congr 1
      omega
    have e2 : (gI s.2 (b.toNat : Nat)).toNat = (gI s.2 b).toNat := by rw [show ((b.toNat : Nat) : Int) = b by omega]
    have this : sumN (fun p => (gI (ledS s.2 b e d) p).toNat) n + (gI s.2 (b.toNat : Nat)).toNat = sumN (fun p => (gI s.2 p).toNat) n + (gI (ledS s.2 b e d) (b.toNat : Nat)).toNat := this
    rw [e1, e2] at this
    have := F.bs
    omega
end
end Circ

set_option Elab.async false
set_option linter.all false
set_option maxRecDepth 100000
set_option maxHeartbeats 1000000
/-! CM5: the whole of a circulation: flows go round, prices show it. -/
namespace Circ
/-- steps -/
noncomputable def circN (n : Nat) (arcs : List Arc) : Nat → CSt → CSt
  | 0, s => s
  | k + 1, s => if begsM n s.2 = [] then s else circN n arcs k (stepM n arcs s)
open Classical in
noncomputable def circF (n : Nat) (arcs : List Arc) (s : CSt) : CSt := if h : ∃ k, begsM n (circN n arcs k s).2 = [] then circN n arcs (Classical.choose h) s else s
section
variable {n : Nat} {arcs : List Arc}
theorem circN_done : ∀ {k : Nat} {s : CSt}, begsM n s.2 = [] → circN n arcs k s = s
  | 0, s, _ => rfl
  | k + 1, s, h => by rw [circN, if_pos h]
theorem circN_one : ∀ {k m : Nat} {s : CSt}, begsM n (circN n arcs k s).2 = [] → begsM n (circN n arcs m s).2 = [] → circN n arcs k s = circN n arcs m s
  | 0, m, s, h, _ => (circN_done h).symm
  | k + 1, 0, s, _, h => circN_done h
  | k + 1, m + 1, s, h1, h2 => by
    by_cases c : begsM n s.2 = []
    · rw [circN_done c, circN_done c]
    · rw [circN, if_neg c] at h1 ⊢
      rw [circN, if_neg c] at h2 ⊢
      exact circN_one h1 h2
theorem circF_eq {k : Nat} {s : CSt} (h : begsM n (circN n arcs k s).2 = []) : circF n arcs s = circN n arcs k s := by
  have h' : ∃ k, begsM n (circN n arcs k s).2 = [] := ⟨k, h⟩
  unfold circF
  rw [dif_pos h']
  exact circN_one (Classical.choose_spec h') h
theorem circ_end (g : GoodA n arcs) : ∀ (m : Nat) (s : CSt), tot n s ≤ m → CI n arcs s → ∃ k, begsM n (circN n arcs k s).2 = [] ∧ CI n arcs (circN n arcs k s)
  | 0, s, hm, c => by
    by_cases e : begsM n s.2 = []
    · exact ⟨0, e, c⟩
    · have := (c.next g e).2
      omega
  | m + 1, s, hm, c => by
    by_cases e : begsM n s.2 = []
    · exact ⟨0, e, c⟩
    · obtain ⟨c2, h2⟩ := c.next g e
      obtain ⟨k, h3, h4⟩ := circ_end g m _ (by omega) c2
      refine ⟨k + 1, ?_⟩
      rw [circN, if_neg e]
      exact ⟨h3, h4⟩
theorem circF_stop {s : CSt} (e : begsM n s.2 = []) : circF n arcs s = s := circF_eq (k := 0) e
theorem circF_step (g : GoodA n arcs) {s : CSt} (c : CI n arcs s) (e : begsM n s.2 ≠ []) : circF n arcs (stepM n arcs s) = circF n arcs s := by
  obtain ⟨c2, _⟩ := c.next g e
  obtain ⟨k, h1, _⟩ := circ_end g _ _ (Nat.le_refl _) c2
  rw [circF_eq h1, circF_eq (k := k + 1) (s := s) (by rw [circN, if_neg e]; exact h1), circN, if_neg e]
theorem circF_ok (g : GoodA n arcs) {s : CSt} (c : CI n arcs s) : CI n arcs (circF n arcs s) ∧ begsM n (circF n arcs s).2 = [] := by
  obtain ⟨k, h1, h2⟩ := circ_end g _ _ (Nat.le_refl _) c
  rw [circF_eq h1]
  exact ⟨h2, h1⟩
/-! ### the start -/
def flow0 (x : Arc) : Int := if x.2.2.2 > 0 then x.2.2.1 else 0
def addS (l : List Int) (q : Arc × Int) : List Int := (l.set q.1.1.toNat (gI l q.1.1 - q.2)).set q.1.2.1.toNat (gI (l.set q.1.1.toNat (gI l q.1.1 - q.2)) q.1.2.1 + q.2)
def sparesM (n : Nat) (arcs : List Arc) (fl : List Int) : List Int := (arcs.zip fl).foldl addS (List.replicate n 0)
theorem addS_len {l : List Int} {q : Arc × Int} : (addS l q).length = l.length := by unfold addS; rw [List.length_set, List.length_set]
theorem addS_get {l : List Int} {q : Arc × Int} {p : Int} (hl : l.length = n) (h1 : InP n q.1.1) (h2 : InP n q.1.2.1) (hp : InP n p) : gI (addS l q) p = gI l p + q.2 * (sgn q.1.2.1 p - sgn q.1.1 p) := by
  have a0 := h1.1
  have a1 := h1.2
  have b0 := h2.1
  have b1 := h2.2
  have p0 := hp.1
  unfold addS
  rw [gI_set b0 (by rw [List.length_set]; omega) p0, gI_set a0 (by omega) b0, gI_set a0 (by omega) p0]
  unfold sgn
  by_cases c1 : p = q.1.2.1 <;> by_cases c2 : p = q.1.1
  · rw [if_pos c1, if_pos (by omega), if_pos (by omega), if_pos (by omega), c2]; omega
  · rw [if_pos c1, if_neg (by omega), if_pos (by omega), if_neg (by omega), c1]; omega
  · rw [if_neg c1, if_pos c2, if_neg (by omega), if_pos (by omega), c2]; omega
  · rw [if_neg c1, if_neg c2, if_neg (by omega), if_neg (by omega)]; omega
theorem spares_fold : ∀ {arcs : List Arc} {fl l : List Int} {p : Int}, GoodA n arcs → fl.length = arcs.length → l.length = n → InP n p →
    ((arcs.zip fl).foldl addS l).length = n ∧ gI ((arcs.zip fl).foldl addS l) p = gI l p + spareF arcs fl p
  | [], fl, l, p, _, _, hl, _ => ⟨hl, by show gI l p = gI l p + 0; omega⟩
  | x :: xs, [], l, p, _, h, _, _ => by cases h
  | x :: xs, f :: fs, l, p, g, h, hl, hp => by
    obtain ⟨g1, g2, _⟩ := g x (by simp)
    obtain ⟨i1, i2⟩ := spares_fold (arcs := xs) (fl := fs) (l := addS l (x, f)) (p := p) (fun y hy => g y (by simp [hy])) (by simpa using h) (by rw [addS_len]; exact hl) hp
    rw [List.zip_cons_cons, List.foldl_cons]
    refine ⟨i1, ?_⟩
    rw [i2, addS_get hl g1 g2 hp]
    show _ = gI l p + (f * (sgn x.2.1 p - sgn x.1 p) + spareF xs fs p)
    show gI l p + f * (sgn x.2.1 p - sgn x.1 p) + spareF xs fs p = _
    omega
theorem gI_rep {p : Int} : gI (List.replicate n 0) p = 0 := by
  unfold gI
  rw [List.getD_eq_getElem?_getD]
  by_cases h : p.toNat < n
  · rw [List.getElem?_replicate_of_lt h]; rfl
  · rw [List.getElem?_eq_none (by rw [List.length_replicate]; omega)]; rfl
theorem spares_ok {fl : List Int} {p : Int} (g : GoodA n arcs) (h : fl.length = arcs.length) (hp : InP n p) : gI (sparesM n arcs fl) p = spareF arcs fl p := by
  have := (spares_fold (l := List.replicate n 0) g h List.length_replicate hp).2
  rw [gI_rep, Int.zero_add] at this
  exact this
theorem spares_len {fl : List Int} (g : GoodA n arcs) (h : fl.length = arcs.length) (hn : 0 < n) : (sparesM n arcs fl).length = n :=
  (spares_fold (l := List.replicate n 0) (p := 0) g h List.length_replicate ⟨by omega, by omega⟩).1
def start0 (n : Nat) (arcs : List Arc) : CSt := (arcs.map flow0, sparesM n arcs (arcs.map flow0))
theorem CI.start (g : GoodA n arcs) (hn : 0 < n) : CI n arcs (start0 n arcs) := by
  refine ⟨List.length_map _, spares_len g (List.length_map _) hn, fun j x hx => ?_, fun p hp => spares_ok g (List.length_map _) hp, fun _ => 0, fun h hh => ?_⟩
  · have : gI (arcs.map flow0) j = flow0 x := gI_of (by rw [List.getElem?_map, hx]; rfl)
    obtain ⟨_, _, r⟩ := g x (List.mem_of_getElem? hx)
    show 0 ≤ gI (arcs.map flow0) j ∧ gI (arcs.map flow0) j ≤ _
    rw [this]
    unfold flow0
    split <;> omega
  · obtain ⟨j, x, f, h1, h2, h3⟩ := mem_halves.mp hh
    have h2 : (arcs.map flow0)[j]? = some f := h2
    rw [List.getElem?_map, h1] at h2
    cases h2
    rw [mem_at] at h3
    unfold flow0 at h3
    rcases h3 with ⟨h3, e⟩ | ⟨h3, e⟩
    · rw [e]
      show (0 : Int) + x.2.2.2 ≤ 0
      split at h3 <;> omega
    · rw [e]
      show (0 : Int) + (0 - x.2.2.2) ≤ 0
      split at h3 <;> omega
/-! ### the end -/
def FlowsOK (n : Nat) (arcs : List Arc) (fl : List Int) : Prop := fl.length = arcs.length ∧ (∀ (j : Nat) (x : Arc), arcs[j]? = some x → 0 ≤ gI fl j ∧ gI fl j ≤ x.2.2.1) ∧ ∀ p, InP n p → spareF arcs fl p = 0
theorem arcSum_one : ∀ {arcs : List Arc} {fl : List Int}, arcSum (fun _ => 1) arcs fl = 0
  | [], _ => rfl
  | _ :: _, [] => rfl
  | x :: xs, f :: fs => by
    show f * ((1 : Int) - 1) + arcSum _ xs fs = 0
    rw [arcSum_one]; simp
theorem CI.done (g : GoodA n arcs) {s : CSt} (c : CI n arcs s) (hb : begsM n s.2 = []) : FlowsOK n arcs s.1 := by
  refine ⟨c.fl, c.bd, fun p hp => ?_⟩
  have le : ∀ p, InP n p → spareF arcs s.1 p ≤ 0 := fun p hp => by
    rw [← c.sp p hp]
    rcases Int.lt_or_le 0 (gI s.2 p) with h | h
    · have := begs_mem.mpr ⟨hp, h⟩
      rw [hb] at this; cases this
    · exact h
  have h0 := hp.1
  have h1 := hp.2
  have e := dual (n := n) (r := fun _ => 1) (arcs := arcs) (fl := s.1) g
  rw [arcSum_one] at e
  have e2 : sumZ (fun q => - (1 * spareF arcs s.1 q)) n = 0 := by rw [sumZ_neg, e]; rfl
  have := sumZ_ge (f := fun q => - (1 * spareF arcs s.1 q)) (j := p.toNat) (n := n) (fun q hq => by
    show 0 ≤ -(1 * spareF arcs s.1 (q : Nat))
    have := le q ⟨by omega, by omega⟩
    omega) (by omega)
  rw [e2] at this
  have this : -(1 * spareF arcs s.1 (p.toNat : Nat)) ≤ 0 := this
  rw [show ((p.toNat : Nat) : Int) = p by omega] at this
  have := le p hp
  omega
def rngZ (n : Nat) : List Int := (List.range n).map fun (i : Nat) => (i : Int)
theorem rng_mem {b : Int} : b ∈ rngZ n ↔ InP n b := by
  unfold rngZ
  rw [List.mem_map]
  constructor
  · rintro ⟨i, hi, rfl⟩
    rw [List.mem_range] at hi
    exact ⟨by omega, by omega⟩
  · rintro ⟨h1, h2⟩
    exact ⟨b.toNat, List.mem_range.mpr (by omega), by omega⟩
noncomputable def waysE (n : Nat) (arcs : List Arc) (fl : List Int) : MS := waysF (halvesM arcs fl 0) (startM n (rngZ n))
def vO (o : Option Val) : Int := (o.getD (0, 0)).1
noncomputable def pricesM (n : Nat) (arcs : List Arc) (fl : List Int) : List Int := (waysE n arcs fl).most.map fun o => vO (gO (waysE n arcs fl).most 0) - vO o
noncomputable def circM (n : Nat) (arcs : List Arc) : CSt := ((circF n arcs (start0 n arcs)).1, pricesM n arcs (circF n arcs (start0 n arcs)).1)
theorem gI_map {f : Option Val → Int} {l : List (Option Val)} {p : Int} (h : p.toNat < l.length) : gI (l.map f) p = f (gO l p) := by
  unfold gI gO
  rw [List.getD_eq_getElem?_getD, List.getD_eq_getElem?_getD, List.getElem?_map, List.getElem?_eq_getElem h]
  rfl
theorem price_get {fl : List Int} {p : Int} (hl : (waysE n arcs fl).most.length = n) (hp : InP n p) : gI (pricesM n arcs fl) p = vO (gO (waysE n arcs fl).most 0) - vO (gO (waysE n arcs fl).most p) := by
  have h0 := hp.1
  have h1 := hp.2
  unfold pricesM
  exact gI_map (by omega)
def worthZ : List Arc → List Int → Int
  | x :: xs, f :: fs => f * x.2.2.2 + worthZ xs fs
  | _, _ => 0
def boundZ (arcs : List Arc) (ps : List Int) : Int := (arcs.map fun x => x.2.2.1 * max 0 (x.2.2.2 - gI ps x.1 + gI ps x.2.1)).sum
/-- what the last passes tell -/
theorem waysE_ok (g : GoodA n arcs) {fl : List Int} (pt : ∃ π, Pot π (halvesM arcs fl 0)) : ∃ m M π, Pot π (halvesM arcs fl 0) ∧ (waysN (halvesM arcs fl 0) m (startM n (rngZ n))).chg = false ∧
    waysE n arcs fl = waysN (halvesM arcs fl 0) m (startM n (rngZ n)) ∧ Inv n (halvesM arcs fl 0) (rngZ n) π M (waysE n arcs fl) ∧ Fix (halvesM arcs fl 0) (waysE n arcs fl) := by
  obtain ⟨π, hπ⟩ := pt
  obtain ⟨m, M, h1, h2, h3, h4⟩ := ways_ok (good_halves g fl) hπ (B := rngZ n) fun b hb => rng_mem.mp hb
  exact ⟨m, M, π, hπ, h1, h2, h3, h4⟩
theorem bound_worth {V : Int → Int} : ∀ {as : List Arc} {fs : List Int}, fs.length = as.length → (∀ (j : Nat) x f, as[j]? = some x → fs[j]? = some f → x.2.2.1 * max 0 (x.2.2.2 + V x.1 - V x.2.1) = f * (x.2.2.2 + V x.1 - V x.2.1)) →
    (as.map fun x => x.2.2.1 * max 0 (x.2.2.2 + V x.1 - V x.2.1)).sum = worthZ as fs - arcSum V as fs
  | [], fs, _, _ => rfl
  | x :: xs, [], h, _ => by cases h
  | x :: xs, f :: fs, h, hc => by
    have ih := bound_worth (as := xs) (fs := fs) (by simpa using h) fun j y z hy hz => hc (j + 1) y z hy hz
    have := hc 0 x f rfl rfl
    rw [List.map_cons, List.sum_cons, ih, this]
    show _ = f * x.2.2.2 + worthZ xs fs - (f * (V x.2.1 - V x.1) + arcSum V xs fs)
    have e : f * (x.2.2.2 + V x.1 - V x.2.1) = f * x.2.2.2 - f * (V x.2.1 - V x.1) := by rw [← Int.mul_sub]; congr 1; omega
    rw [e]
    omega
theorem slack {n : Nat} {H : List Half} {B : List Int} {π : Int → Int} {M : Int} {t : MS} (i : Inv n H B π M t) (f : Fix H t) (g : Good n H) {h : Half} (hh : h ∈ H) {v : Val} (hv : gO t.most h.1 = some v) : vO (gO t.most h.1) + h.2.2.1 ≤ vO (gO t.most h.2.1) := by
  obtain ⟨u, hu, hl⟩ := f.half i g hh hv
  rw [vlt_no] at hl
  simp only [moreV] at hl
  rw [hv, hu]
  show v.1 + h.2.2.1 ≤ u.1
  omega
theorem circ_ok (g : GoodA n arcs) (hn : 0 < n) : FlowsOK n arcs (circM n arcs).1 ∧ (circM n arcs).2.length = n ∧ gI (circM n arcs).2 0 = 0 ∧ boundZ arcs (circM n arcs).2 = worthZ arcs (circM n arcs).1 := by
  obtain ⟨c, hb⟩ := circF_ok g (CI.start g hn)
  have F := c.done g hb
  obtain ⟨m, M, π, hπ, h1, h2, h3, h4⟩ := waysE_ok g c.pt
  have gH := good_halves g (circF n arcs (start0 n arcs)).1
  unfold circM
  generalize (circF n arcs (start0 n arcs)).1 = fl at *
  refine ⟨F, ?_, ?_, ?_⟩
  · show ((waysE n arcs fl).most.map _).length = n
    rw [List.length_map]; exact h3.ml
  · show gI (pricesM n arcs fl) 0 = 0
    rw [price_get h3.ml ⟨by omega, by omega⟩]; omega
  · obtain ⟨V, hV⟩ : ∃ V : Int → Int, V = fun p => vO (gO (waysE n arcs fl).most p) := ⟨_, rfl⟩
    have e1 : boundZ arcs (pricesM n arcs fl) = (arcs.map fun x => x.2.2.1 * max 0 (x.2.2.2 + V x.1 - V x.2.1)).sum := by
      unfold boundZ
      congr 1
      refine List.map_congr_left fun x hx => ?_
      obtain ⟨g1, g2, _⟩ := g x hx
      rw [price_get h3.ml g1, price_get h3.ml g2, hV]
      congr 2
      show _ = x.2.2.2 + vO (gO (waysE n arcs fl).most x.1) - vO (gO (waysE n arcs fl).most x.2.1)
      omega
    have all : ∀ p, InP n p → ∃ v, gO (waysE n arcs fl).most p = some v := fun p hp => by
      obtain ⟨v, hv, _⟩ := h3.bg p (rng_mem.mpr hp)
      exact ⟨v, hv⟩
    show boundZ arcs (pricesM n arcs fl) = worthZ arcs fl
    rw [e1, bound_worth (V := V) F.1 fun j x f hx hf => ?_]
    · rw [← dual g, sumZ_congr (g := fun _ => 0) fun i hi => ?_, sumZ_zero]
      · omega
      · show V i * spareF arcs fl i = 0
        rw [F.2.2 i ⟨by omega, by omega⟩]; simp
    · have ef := gI_of hf
      obtain ⟨b0, b1⟩ := F.2.1 j x hx
      rw [ef] at b0 b1
      obtain ⟨g1, g2, g3⟩ := g x (List.mem_of_getElem? hx)
      have fw : f < x.2.2.1 → V x.1 + x.2.2.2 ≤ V x.2.1 := fun h => by
        obtain ⟨v, hv⟩ := all _ g1
        have hm : ((x.1, x.2.1, x.2.2.2, (j : Int), 1) : Half) ∈ halvesM arcs fl 0 := mem_halves.mpr ⟨j, x, f, hx, hf, mem_at.mpr (.inl ⟨h, by simp⟩)⟩
        have := slack h3 h4 gH hm hv
        rw [hV]; exact this
      have bw : 0 < f → V x.2.1 - x.2.2.2 ≤ V x.1 := fun h => by
        obtain ⟨v, hv⟩ := all _ g2
        have hm : ((x.2.1, x.1, 0 - x.2.2.2, (j : Int), -1) : Half) ∈ halvesM arcs fl 0 := mem_halves.mpr ⟨j, x, f, hx, hf, mem_at.mpr (.inr ⟨h, by simp⟩)⟩
        have := slack h3 h4 gH hm hv
        have this : vO (gO (waysE n arcs fl).most x.2.1) + (0 - x.2.2.2) ≤ vO (gO (waysE n arcs fl).most x.1) := this
        rw [hV]
        show vO (gO (waysE n arcs fl).most x.2.1) - x.2.2.2 ≤ vO (gO (waysE n arcs fl).most x.1)
        omega
      by_cases c1 : f < x.2.2.1
      · have := fw c1
        rw [show max 0 (x.2.2.2 + V x.1 - V x.2.1) = 0 by omega]
        by_cases c2 : 0 < f
        · have := bw c2
          rw [show x.2.2.2 + V x.1 - V x.2.1 = 0 by omega]; simp
        · rw [show f = 0 by omega]; simp
      · have ee : x.2.2.1 = f := by omega
        rw [ee]
        by_cases c2 : 0 < f
        · have := bw c2
          congr 1
          omega
        · rw [show f = 0 by omega]; simp
end
end Circ

set_option Elab.async false
set_option linter.all false
set_option maxRecDepth 100000
set_option maxHeartbeats 1000000
/-! CM6: how great prices are. -/
namespace Circ
theorem nodup_leN : ∀ (n : Nat) (l : List Nat), l.Pairwise (· ≠ ·) → (∀ x ∈ l, x < n) → l.length ≤ n
  | 0, l, _, h => by
    cases l with
    | nil => exact Nat.le_refl _
    | cons x xs => exact absurd (h x (by simp)) (Nat.not_lt_zero _)
  | n + 1, l, hp, h => by
    have hn : l.Nodup := hp
    have h1 : (l.erase n).length ≤ n := nodup_leN n (l.erase n) (hn.erase n) fun x hx => by
      rw [hn.mem_erase_iff] at hx
      have := h x hx.2
      have := hx.1
      omega
    have h2 := List.length_erase (a := n) (l := l)
    split at h2 <;> omega
def WorthOK (arcs : List Arc) : Prop := ∀ x ∈ arcs, -1000 ≤ x.2.2.2 ∧ x.2.2.2 ≤ 1000
section
variable {n : Nat} {arcs : List Arc} {H : List Half} {B : List Int} {π : Int → Int} {M : Int}
theorem chain_val {t : MS} (i : Inv n H B π M t) {p q : Int} {hs : List Half} (c : Chain t.came p hs q) : (∀ h ∈ hs, -1000 ≤ h.2.2.1 ∧ h.2.2.1 ≤ 1000) → (∀ h ∈ hs, 0 ≤ h.1) → Steps t hs → (∀ p h, 0 ≤ p → gO t.came p = some h → h ∈ hs → h.2.1 = p) → 0 ≤ p → ∀ v, gO t.most p = some v → v.1 ≤ 1000 * (hs.length : Int) := by
  induction c with
  | @nil p hn =>
    intro _ _ _ _ hp v hv
    have := (i.cn p v hp hn hv).2
    rw [this]; simp
  | @cons p q h hs hc c ih =>
    intro hw h0 hS hb hp v hv
    obtain ⟨u, u1, u2⟩ := hS h (by simp)
    have e := hb p h hp hc (by simp)
    rw [e, hv] at u2
    have := ih (fun k hk => hw k (by simp [hk])) (fun k hk => h0 k (by simp [hk])) (fun k hk => hS k (by simp [hk])) (fun p k p0 hp hk => hb p k p0 hp (by simp [hk])) (h0 h (by simp)) u u1
    have e1 : v.1 = u.1 + h.2.2.1 := by rw [Option.some.inj u2]; rfl
    have := (hw h (by simp)).2
    rw [List.length_cons]
    omega
theorem price_bd (g : GoodA n arcs) (hw : WorthOK arcs) (hn : 0 < n) {p : Int} (hp : InP n p) : -(1000 * (n : Int)) ≤ gI (circM n arcs).2 p ∧ gI (circM n arcs).2 p ≤ 1000 * (n : Int) := by
  obtain ⟨c, hb⟩ := circF_ok g (CI.start g hn)
  obtain ⟨m, M, π, hπ, h1, h2, h3, h4⟩ := waysE_ok g c.pt
  have gH := good_halves g (circF n arcs (start0 n arcs)).1
  have e : gI (circM n arcs).2 p = vO (gO (waysE n arcs (circF n arcs (start0 n arcs)).1).most 0) - vO (gO (waysE n arcs (circF n arcs (start0 n arcs)).1).most p) := price_get h3.ml hp
  rw [e]
  have hH : ∀ h ∈ halvesM arcs (circF n arcs (start0 n arcs)).1 0, -1000 ≤ h.2.2.1 ∧ h.2.2.1 ≤ 1000 := fun h hh => by
    obtain ⟨j, x, e0, _, e2⟩ := halfOf hh
    have := hw x (List.mem_of_getElem? e0)
    rcases e2 with ⟨_, _, e3, _⟩ | ⟨_, _, e3, _⟩ <;> rw [e3] <;> omega
  generalize (circF n arcs (start0 n arcs)).1 = fl at *
  generalize waysE n arcs fl = t at *
  have key : ∀ q, InP n q → 0 ≤ vO (gO t.most q) ∧ vO (gO t.most q) ≤ 1000 * (n : Int) := fun q hq => by
    obtain ⟨v, hv, v0⟩ := h3.bg q (rng_mem.mpr hq)
    obtain ⟨hs, b, ch, hl, hbB, hbc, hH2, hS, hu, hpw⟩ := chain_of h3 h4 gH _ q v hq.1 hv rfl
    have := chain_val h3 ch (fun h hh => hH h (hH2 h hh)) (fun h hh => (gH h (hH2 h hh)).1.1) hS (fun p h p0 hc hh => (h4.came h3 gH p0 hc).2.1) hq.1 v hv
    have hlen : hs.length ≤ n := by
      have := nodup_leN n (hs.map fun h => h.2.1.toNat) (by
        rw [List.pairwise_map]
        refine List.Pairwise.imp_of_mem ?_ hpw
        intro a k ha hk hlt e
        have a0 := (gH a (hH2 a ha)).2.1
        have k0 := (gH k (hH2 k hk)).2.1
        have e : a.2.1 = k.2.1 := by omega
        obtain ⟨u, _, u2⟩ := hS a ha
        obtain ⟨w, _, w2⟩ := hS k hk
        have := hlt _ _ u2 w2
        rw [e, w2] at u2
        have := congrArg Prod.snd (Option.some.inj u2)
        omega) fun x hx => by
          obtain ⟨h, hh, rfl⟩ := List.mem_map.mp hx
          have := (gH h (hH2 h hh)).2
          have h0 := this.1
          have h1 := this.2
          omega
      rwa [List.length_map] at this
    rw [hv]
    show 0 ≤ v.1 ∧ v.1 ≤ _
    omega
  have k0 := key 0 ⟨by omega, by omega⟩
  have k1 := key p hp
  omega
end
end Circ

set_option Elab.async false
set_option linter.all false
set_option maxRecDepth 100000
set_option maxHeartbeats 1000000
/-! KM5: nets of which it is known what is best, in plain Lean. -/
namespace Circ
def redC (q : Int → Int) (x : Arc) : Int := x.2.2.2 - q x.1 + q x.2.1
def boundF (arcs : List Arc) (q : Int → Int) : Int := (arcs.map fun x => x.2.2.1 * max 0 (redC q x)).sum
theorem boundF_app {a b : List Arc} {q : Int → Int} : boundF (a ++ b) q = boundF a q + boundF b q := by
  unfold boundF
  rw [List.map_append, List.sum_append]
theorem boundF_cons {x : Arc} {a : List Arc} {q : Int → Int} : boundF (x :: a) q = x.2.2.1 * max 0 (redC q x) + boundF a q := by
  unfold boundF
  rw [List.map_cons, List.sum_cons]
theorem boundF_nil {q : Int → Int} : boundF [] q = 0 := rfl
theorem boundF_congr {a : List Arc} {q q' : Int → Int} (h : ∀ x ∈ a, q x.1 = q' x.1 ∧ q x.2.1 = q' x.2.1) : boundF a q = boundF a q' := by
  unfold boundF
  congr 1
  refine List.map_congr_left fun x hx => ?_
  obtain ⟨h1, h2⟩ := h x hx
  unfold redC
  rw [h1, h2]
theorem boundZ_F {arcs : List Arc} {ps : List Int} : boundZ arcs ps = boundF arcs (gI ps) := rfl
def RoomNN (arcs : List Arc) : Prop := ∀ x ∈ arcs, 0 ≤ x.2.2.1
theorem boundF_nn {q : Int → Int} : ∀ {arcs : List Arc}, RoomNN arcs → 0 ≤ boundF arcs q
  | [], _ => Int.le_refl _
  | x :: xs, h => by
    have := boundF_nn (q := q) (arcs := xs) fun y hy => h y (by simp [hy])
    have h2 := Int.mul_nonneg (h x (by simp)) (show 0 ≤ max 0 (redC q x) by omega)
    rw [boundF_cons]; omega
theorem boundF_rev {arcs : List Arc} {q : Int → Int} : boundF arcs.reverse q = boundF arcs q := by
  unfold boundF
  rw [List.map_reverse, List.sum_reverse]
/-- no flows are worth more than any prices bound -/
theorem worth_le {n : Nat} {arcs : List Arc} {fl : List Int} {q : Int → Int} (g : GoodA n arcs) (F : FlowsOK n arcs fl) : worthZ arcs fl ≤ boundF arcs q := by
  have key : ∀ {as : List Arc} {fs : List Int}, (∀ (j : Nat) x, as[j]? = some x → 0 ≤ gI fs j ∧ gI fs j ≤ x.2.2.1) → fs.length = as.length → worthZ as fs + arcSum q as fs ≤ boundF as q := by
    intro as
    induction as with
    | nil => intro fs _ _; exact Int.le_refl _
    | cons x xs ih =>
      intro fs h hl
      cases fs with
      | nil => cases hl
      | cons f fs =>
        have h0 := h 0 x rfl
        have e0 : gI (f :: fs) ((0 : Nat) : Int) = f := rfl
        rw [e0] at h0
        have := ih (fs := fs) (fun j y hy => by
          have := h (j + 1) y hy
          have e : gI (f :: fs) ((j + 1 : Nat) : Int) = gI fs j := rfl
          rw [e] at this; exact this) (by simpa using hl)
        rw [boundF_cons]
        show f * x.2.2.2 + worthZ xs fs + (f * (q x.2.1 - q x.1) + arcSum q xs fs) ≤ _
        have e : f * x.2.2.2 + f * (q x.2.1 - q x.1) = f * redC q x := by
          unfold redC
          rw [← Int.mul_add]; congr 1; omega
        have h1 : f * redC q x ≤ f * max 0 (redC q x) := Int.mul_le_mul_of_nonneg_left (by omega) h0.1
        have h2 : f * max 0 (redC q x) ≤ x.2.2.1 * max 0 (redC q x) := Int.mul_le_mul_of_nonneg_right h0.2 (by omega)
        omega
  have h := key F.2.1 F.1
  have e : arcSum q arcs fl = 0 := by
    rw [← dual g, sumZ_congr (g := fun _ => 0) fun i hi => ?_, sumZ_zero]
    show q i * spareF arcs fl i = 0
    rw [F.2.2 i ⟨by omega, by omega⟩]; simp
  rw [e] at h
  omega
def Known (arcs : List Arc) (due : Int) : Prop := (∀ q, due ≤ boundF arcs q) ∧ ∃ q, boundF arcs q = due
theorem Known.worth {n : Nat} {arcs : List Arc} {fl ps : List Int} {due : Int} (k : Known arcs due) (g : GoodA n arcs) (F : FlowsOK n arcs fl) (h : boundZ arcs ps = worthZ arcs fl) : worthZ arcs fl = due := by
  obtain ⟨q, hq⟩ := k.2
  have h1 := k.1 (gI ps)
  rw [← boundZ_F, h] at h1
  have h2 := worth_le (q := q) g F
  omega
theorem Known.rev {arcs : List Arc} {due : Int} (k : Known arcs due) : Known arcs.reverse due := by
  refine ⟨fun q => by rw [boundF_rev]; exact k.1 q, ?_⟩
  obtain ⟨q, hq⟩ := k.2
  exact ⟨q, by rw [boundF_rev]; exact hq⟩
/-! ### paths, rings -/
def pathA : List Int → List (Int × Int) → List Arc
  | p :: p2 :: ps, rw' :: rws => (p, p2, rw'.1, rw'.2) :: pathA (p2 :: ps) rws
  | _, _ => []
def sumW (rws : List (Int × Int)) : Int := (rws.map (·.2)).sum
theorem pathA_len : ∀ {L : List Int} {rws : List (Int × Int)}, rws.length + 1 = L.length → (pathA L rws).length = rws.length
  | [], _, h => by simp at h
  | [p], rws, h => by
    cases rws with
    | nil => rfl
    | cons _ _ => simp at h
  | p :: p2 :: ps, [], h => by simp at h
  | p :: p2 :: ps, r :: rws, h => by
    have := pathA_len (L := p2 :: ps) (rws := rws) (by simpa using h)
    show (pathA (p2 :: ps) rws).length + 1 = _
    rw [this, List.length_cons]
theorem pathA_snoc : ∀ {L : List Int} {rws : List (Int × Int)} {l y : Int} {r : Int × Int}, rws.length + 1 = (L ++ [l]).length → pathA (L ++ [l] ++ [y]) (rws ++ [r]) = pathA (L ++ [l]) rws ++ [(l, y, r.1, r.2)]
  | [], rws, l, y, r, h => by
    cases rws with
    | nil => rfl
    | cons _ _ => simp at h
  | [p], rws, l, y, r, h => by
    cases rws with
    | nil => simp at h
    | cons a rws =>
      cases rws with
      | nil => rfl
      | cons _ _ => simp at h
  | p :: p2 :: L, [], l, y, r, h => by simp at h
  | p :: p2 :: L, a :: rws, l, y, r, h => by
    have := pathA_snoc (L := p2 :: L) (rws := rws) (l := l) (y := y) (r := r) (by simpa using h)
    show _ :: pathA (p2 :: L ++ [l] ++ [y]) (rws ++ [r]) = _ :: pathA (p2 :: L ++ [l]) rws ++ _
    rw [this]
    rfl
/-- sums along a path -/
theorem path_tel {q : Int → Int} : ∀ {L : List Int} {rws : List (Int × Int)} {p : Int}, rws.length = L.length → ((pathA (p :: L) rws).map (redC q)).sum = sumW rws - q p + q ((p :: L).getLast (by simp))
  | [], rws, p, h => by
    cases rws with
    | nil => show (0 : Int) = 0 - q p + q p; omega
    | cons _ _ => simp at h
  | p2 :: L, [], p, h => by simp at h
  | p2 :: L, a :: rws, p, h => by
    have := path_tel (q := q) (L := L) (rws := rws) (p := p2) (by simpa using h)
    show redC q (p, p2, a.1, a.2) + ((pathA (p2 :: L) rws).map (redC q)).sum = (a.2 + sumW rws) - q p + q ((p :: p2 :: L).getLast (by simp))
    rw [this, List.getLast_cons (show p2 :: L ≠ [] by simp)]
    show a.2 - q p + q p2 + (sumW rws - q p2 + q ((p2 :: L).getLast (by simp))) = a.2 + sumW rws - q p + q ((p2 :: L).getLast (by simp))
    omega
theorem path_mem : ∀ {L : List Int} {rws : List (Int × Int)} {x : Arc}, x ∈ pathA L rws → x.1 ∈ L ∧ x.2.1 ∈ L ∧ (x.2.2.1, x.2.2.2) ∈ rws
  | [], _, _, h => by cases h
  | [p], rws, _, h => by cases rws <;> cases h
  | p :: p2 :: L, [], _, h => by cases h
  | p :: p2 :: L, a :: rws, x, h => by
    rcases List.mem_cons.mp (show x ∈ (p, p2, a.1, a.2) :: pathA (p2 :: L) rws from h) with rfl | h
    · exact ⟨by simp, by simp, by simp⟩
    · obtain ⟨h1, h2, h3⟩ := path_mem (L := p2 :: L) h
      exact ⟨by simp [h1], by simp [h2], by simp [h3]⟩
/-- prices by which nothing is gained along a path -/
theorem zeroP : ∀ {L : List Int} {rws : List (Int × Int)} {p : Int} (q0 : Int → Int), (p :: L).Nodup → rws.length = L.length → ∃ q, q p = q0 p ∧ (∀ x, x ∉ L → q x = q0 x) ∧ (∀ x ∈ pathA (p :: L) rws, redC q x = 0) ∧ q ((p :: L).getLast (by simp)) = q0 p - sumW rws
  | [], rws, p, q0, _, h => by
    cases rws with
    | nil => exact ⟨q0, rfl, fun _ _ => rfl, fun x hx => (by cases hx), by show q0 p = q0 p - 0; omega⟩
    | cons _ _ => simp at h
  | p2 :: L, [], p, q0, _, h => by simp at h
  | p2 :: L, a :: rws, p, q0, hn, h => by
    obtain ⟨hp, hn2⟩ := List.nodup_cons.mp hn
    obtain ⟨q, h1, h2, h3, h4⟩ := zeroP (L := L) (rws := rws) (p := p2) (fun x => if x = p2 then q0 p - a.2 else q0 x) hn2 (by simpa using h)
    have hp2 : p ≠ p2 := fun e => hp (by rw [e]; simp)
    have hpL : p ∉ L := fun e => hp (by simp [e])
    have hqp : q p = q0 p := by rw [h2 p hpL]; exact if_neg hp2
    have hq2 : q p2 = q0 p - a.2 := by rw [h1]; exact if_pos rfl
    refine ⟨q, hqp, fun x hx => ?_, fun x hx => ?_, ?_⟩
    · rw [h2 x (fun e => hx (by simp [e]))]
      exact if_neg (fun e => hx (by rw [e]; simp))
    · rcases List.mem_cons.mp (show x ∈ (p, p2, a.1, a.2) :: pathA (p2 :: L) rws from hx) with rfl | hx
      · show a.2 - q p + q p2 = 0
        omega
      · exact h3 x hx
    · rw [List.getLast_cons (by simp), h4]
      show (if p2 = p2 then q0 p - a.2 else q0 p2) - sumW rws = q0 p - (a.2 + sumW rws)
      rw [if_pos rfl]; omega
theorem bound_zero {q : Int → Int} : ∀ {arcs : List Arc}, (∀ x ∈ arcs, redC q x = 0) → boundF arcs q = 0
  | [], _ => rfl
  | x :: xs, h => by
    rw [boundF_cons, h x (by simp), bound_zero fun y hy => h y (by simp [hy])]
    simp
/-- .. or all at one arc -/
theorem oneP : ∀ {L : List Int} {rws : List (Int × Int)} {p : Int} (q0 : Int → Int) (T ρ : Int), (p :: L).Nodup → rws.length = L.length → (∃ w, (ρ, w) ∈ rws) →
    ∃ q, q p = q0 p ∧ (∀ x, x ∉ L → q x = q0 x) ∧ boundF (pathA (p :: L) rws) q = ρ * max 0 T ∧ q ((p :: L).getLast (by simp)) = q0 p + T - sumW rws
  | [], rws, p, q0, T, ρ, _, h, hm => by
    cases rws with
    | nil => obtain ⟨w, hw⟩ := hm; cases hw
    | cons _ _ => simp at h
  | p2 :: L, [], p, q0, T, ρ, _, h, _ => by simp at h
  | p2 :: L, a :: rws, p, q0, T, ρ, hn, h, hm => by
    obtain ⟨hp, hn2⟩ := List.nodup_cons.mp hn
    have hp2 : p ≠ p2 := fun e => hp (by rw [e]; simp)
    have hpL : p ∉ L := fun e => hp (by simp [e])
    by_cases c : ρ = a.1
    · obtain ⟨q, h1, h2, h3, h4⟩ := zeroP (L := L) (rws := rws) (p := p2) (fun x => if x = p2 then q0 p - a.2 + T else q0 x) hn2 (by simpa using h)
      have hqp : q p = q0 p := by rw [h2 p hpL]; exact if_neg hp2
      have hq2 : q p2 = q0 p - a.2 + T := by rw [h1]; exact if_pos rfl
      refine ⟨q, hqp, fun x hx => ?_, ?_, ?_⟩
      · rw [h2 x (fun e => hx (by simp [e]))]
        exact if_neg (fun e => hx (by rw [e]; simp))
      · show boundF ((p, p2, a.1, a.2) :: pathA (p2 :: L) rws) q = _
        rw [boundF_cons, bound_zero h3, c]
        show a.1 * max 0 (a.2 - q p + q p2) + 0 = _
        rw [show a.2 - q p + q p2 = T by omega]; omega
      · rw [List.getLast_cons (by simp), h4]
        show (if p2 = p2 then q0 p - a.2 + T else q0 p2) - sumW rws = q0 p + T - (a.2 + sumW rws)
        rw [if_pos rfl]; omega
    · obtain ⟨q, h1, h2, h3, h4⟩ := oneP (L := L) (rws := rws) (p := p2) (fun x => if x = p2 then q0 p - a.2 else q0 x) T ρ hn2 (by simpa using h) (by
        obtain ⟨w, hw⟩ := hm
        rcases List.mem_cons.mp hw with e | hw
        · exact absurd (congrArg Prod.fst e) c
        · exact ⟨w, hw⟩)
      have hqp : q p = q0 p := by rw [h2 p hpL]; exact if_neg hp2
      have hq2 : q p2 = q0 p - a.2 := by rw [h1]; exact if_pos rfl
      refine ⟨q, hqp, fun x hx => ?_, ?_, ?_⟩
      · rw [h2 x (fun e => hx (by simp [e]))]
        exact if_neg (fun e => hx (by rw [e]; simp))
      · show boundF ((p, p2, a.1, a.2) :: pathA (p2 :: L) rws) q = _
        rw [boundF_cons, h3]
        show a.1 * max 0 (a.2 - q p + q p2) + _ = _
        rw [show a.2 - q p + q p2 = 0 by omega]; simp
      · rw [List.getLast_cons (by simp), h4]
        show (if p2 = p2 then q0 p - a.2 else q0 p2) + T - sumW rws = q0 p + T - (a.2 + sumW rws)
        rw [if_pos rfl]; omega
/-- a ring's arcs: from the first place over L and back -/
def ringA (p : Int) (L : List Int) (rws : List (Int × Int)) : List Arc := pathA (p :: L ++ [p]) rws
theorem ring_split {p : Int} {L : List Int} {rws : List (Int × Int)} (h : rws.length = L.length + 1) : ∃ rws' r, rws = rws' ++ [r] ∧ rws'.length = L.length ∧ ringA p L rws = pathA (p :: L) rws' ++ [((p :: L).getLast (by simp), p, r.1, r.2)] := by
  obtain ⟨rws', r, rfl⟩ : ∃ rws' r, rws = rws' ++ [r] := ⟨rws.dropLast, rws.getLast (fun e => by rw [e] at h; simp at h), (List.dropLast_concat_getLast _).symm⟩
  have hl : rws'.length = L.length := by rw [List.length_append, List.length_singleton] at h; omega
  refine ⟨rws', r, rfl, hl, ?_⟩
  unfold ringA
  have e : p :: L = (p :: L).dropLast ++ [(p :: L).getLast (by simp)] := (List.dropLast_concat_getLast _).symm
  have hlen : (p :: L).length = L.length + 1 := rfl
  have := pathA_snoc (L := (p :: L).dropLast) (rws := rws') (l := (p :: L).getLast (by simp)) (y := p) (r := r) (by rw [← e, hl, hlen])
  rw [← e] at this
  exact this
theorem sumW_snoc {rws : List (Int × Int)} {r : Int × Int} : sumW (rws ++ [r]) = sumW rws + r.2 := by
  unfold sumW
  rw [List.map_append, List.sum_append]; simp
theorem max_add {ρ a b : Int} (h : 0 ≤ ρ) : ρ * max 0 (a + b) ≤ ρ * max 0 a + ρ * max 0 b := by
  rw [← Int.mul_add]
  exact Int.mul_le_mul_of_nonneg_left (by omega) h
theorem low_bound {q : Int → Int} {ρ : Int} (h0 : 0 ≤ ρ) : ∀ {arcs : List Arc}, (∀ x ∈ arcs, ρ ≤ x.2.2.1) → ρ * max 0 ((arcs.map (redC q)).sum) ≤ boundF arcs q
  | [], _ => by show ρ * max 0 0 ≤ 0; simp
  | x :: xs, h => by
    have ih := low_bound (q := q) h0 (arcs := xs) fun y hy => h y (by simp [hy])
    rw [List.map_cons, List.sum_cons, boundF_cons]
    have h1 := max_add (a := redC q x) (b := (xs.map (redC q)).sum) h0
    have h2 : ρ * max 0 (redC q x) ≤ x.2.2.1 * max 0 (redC q x) := Int.mul_le_mul_of_nonneg_right (h x (by simp)) (by omega)
    omega
theorem ring_tel {q : Int → Int} {p : Int} {L : List Int} {rws : List (Int × Int)} (h : rws.length = L.length + 1) : ((ringA p L rws).map (redC q)).sum = sumW rws := by
  obtain ⟨rws', r, rfl, hl, e⟩ := ring_split (p := p) h
  rw [e, List.map_append, List.sum_append, path_tel hl, sumW_snoc]
  show sumW rws' - q p + q ((p :: L).getLast (by simp)) + (r.2 - q ((p :: L).getLast (by simp)) + q p + 0) = _
  omega
/-- what a ring is worth -/
theorem ring_known {p : Int} {L : List Int} {rws : List (Int × Int)} {ρ : Int} (hn : (p :: L).Nodup) (h : rws.length = L.length + 1) (hm : ∃ w, (ρ, w) ∈ rws) (hle : ∀ r ∈ rws, ρ ≤ r.1) (h0 : 0 ≤ ρ) :
    (∀ q, max 0 (sumW rws) * ρ ≤ boundF (ringA p L rws) q) ∧ ∀ q0 : Int → Int, ∃ q, q p = q0 p ∧ (∀ x, x ∉ L → q x = q0 x) ∧ boundF (ringA p L rws) q = max 0 (sumW rws) * ρ := by
  refine ⟨fun q => ?_, fun q0 => ?_⟩
  · have := low_bound (q := q) h0 (arcs := ringA p L rws) fun x hx => by
      obtain ⟨_, _, h3⟩ := path_mem hx
      exact hle _ h3
    rw [ring_tel h] at this
    rw [Int.mul_comm]; exact this
  · obtain ⟨rws', r, rfl, hl, e⟩ := ring_split (p := p) h
    rw [e]
    by_cases c : ∃ w, (ρ, w) ∈ rws'
    · obtain ⟨q, h1, h2, h3, h4⟩ := oneP q0 (sumW (rws' ++ [r])) ρ hn hl c
      refine ⟨q, h1, h2, ?_⟩
      rw [boundF_app, h3, boundF_cons, boundF_nil]
      show _ + (r.1 * max 0 (r.2 - q _ + q p) + 0) = _
      rw [h4, h1, sumW_snoc, show r.2 - (q0 p + (sumW rws' + r.2) - sumW rws') + q0 p = 0 by omega]
      rw [Int.mul_comm ρ]
      simp
    · have er : ρ = r.1 := by
        obtain ⟨w, hw⟩ := hm
        rcases List.mem_append.mp hw with hw | hw
        · exact absurd ⟨w, hw⟩ c
        · exact congrArg Prod.fst (List.mem_singleton.mp hw)
      obtain ⟨q, h1, h2, h3, h4⟩ := zeroP q0 hn hl
      refine ⟨q, h1, h2, ?_⟩
      rw [boundF_app, bound_zero h3, boundF_cons, boundF_nil]
      show 0 + (r.1 * max 0 (r.2 - q _ + q p) + 0) = _
      rw [h4, h1, sumW_snoc, show r.2 - (q0 p - sumW rws') + q0 p = sumW rws' + r.2 by omega, er, Int.mul_comm]
      omega
end Circ

set_option Elab.async false
set_option linter.all false
set_option maxRecDepth 100000
set_option maxHeartbeats 1000000
/-! KM6: arcs there and back, in plain Lean. -/
namespace Circ
def backA (arcs : List Arc) : List Arc := arcs.map fun x => (x.2.1, x.1, x.2.2.1, 0 - x.2.2.2)
theorem redC_back {q : Int → Int} (x : Arc) : redC q (x.2.1, x.1, x.2.2.1, 0 - x.2.2.2) = - redC q x := by
  unfold redC
  show 0 - x.2.2.2 - q x.2.1 + q x.1 = _
  omega
theorem sum_back {q : Int → Int} : ∀ {arcs : List Arc}, ((backA arcs).map (redC q)).sum = -((arcs.map (redC q)).sum)
  | [] => rfl
  | x :: xs => by
    have := sum_back (q := q) (arcs := xs)
    show redC q (x.2.1, x.1, x.2.2.1, 0 - x.2.2.2) + ((backA xs).map (redC q)).sum = _
    rw [this, redC_back, List.map_cons, List.sum_cons]; omega
theorem abs_max (R S : Int) : (if S < 0 then -S else S) * R = R * max 0 S + R * max 0 (-S) := by
  rw [← Int.mul_add, Int.mul_comm]
  congr 1
  split <;> omega
/-- a ring there and back, all of one room -/
theorem both_known {p : Int} {L : List Int} {rws : List (Int × Int)} {R : Int} (hn : (p :: L).Nodup) (h : rws.length = L.length + 1) (hR : ∀ r ∈ rws, r.1 = R) (h0 : 0 ≤ R) :
    Known (ringA p L rws ++ backA (ringA p L rws)) ((if sumW rws < 0 then -sumW rws else sumW rws) * R) := by
  have hm : ∀ x ∈ ringA p L rws, x.2.2.1 = R := fun x hx => hR _ (path_mem hx).2.2
  rw [abs_max]
  refine ⟨fun q => ?_, ?_⟩
  · have h1 := low_bound (q := q) h0 (arcs := ringA p L rws) fun x hx => by rw [hm x hx]; exact Int.le_refl _
    have h2 := low_bound (q := q) h0 (arcs := backA (ringA p L rws)) fun x hx => by
      obtain ⟨y, hy, rfl⟩ := List.mem_map.mp hx
      show R ≤ y.2.2.1
      rw [hm y hy]; exact Int.le_refl _
    rw [sum_back, ring_tel h] at h2
    rw [ring_tel h] at h1
    rw [boundF_app]
    omega
  · obtain ⟨rws', r, rfl, hl, e⟩ := ring_split (p := p) h
    obtain ⟨q, h1, h2, h3, h4⟩ := zeroP (fun _ => 0) hn hl
    refine ⟨q, ?_⟩
    have hr : r.1 = R := hR r (by simp)
    have hz : ∀ x ∈ backA (pathA (p :: L) rws'), redC q x = 0 := fun x hx => by
      obtain ⟨y, hy, rfl⟩ := List.mem_map.mp hx
      rw [redC_back, h3 y hy]; rfl
    have eb : backA (pathA (p :: L) rws' ++ [((p :: L).getLast (by simp), p, r.1, r.2)]) = backA (pathA (p :: L) rws') ++ [(p, (p :: L).getLast (by simp), r.1, 0 - r.2)] := by unfold backA; rw [List.map_append]; rfl
    rw [e, eb, boundF_app, boundF_app, boundF_app, bound_zero h3, bound_zero hz, boundF_cons, boundF_nil, boundF_cons, boundF_nil]
    show 0 + (r.1 * max 0 (r.2 - q ((p :: L).getLast (by simp)) + q p) + 0) + (0 + (r.1 * max 0 (0 - r.2 - q p + q ((p :: L).getLast (by simp))) + 0)) = _
    rw [h4, h1, sumW_snoc, hr, show r.2 - (0 - sumW rws') + 0 = sumW rws' + r.2 by omega, show 0 - r.2 - 0 + (0 - sumW rws') = -(sumW rws' + r.2) by omega]
    omega
/-- a path is worth nothing -/
theorem path_known {p : Int} {L : List Int} {rws : List (Int × Int)} (hn : (p :: L).Nodup) (h : rws.length = L.length) (h0 : ∀ r ∈ rws, 0 ≤ r.1) : Known (pathA (p :: L) rws) 0 := by
  refine ⟨fun q => boundF_nn fun x hx => h0 _ (path_mem hx).2.2, ?_⟩
  obtain ⟨q, _, _, h3, _⟩ := zeroP (fun _ => 0) hn h
  exact ⟨q, bound_zero h3⟩
/-! ### there and back between two places -/
def cutH (T : List (Int × Int)) (t : Int × Int) : List (Int × Int) := if t.2 = 0 then T else t :: T
def gre : Nat → List (Int × Int) → List (Int × Int) → Int
  | n + 1, t :: T, b :: B => if t.1 + b.1 < 0 then gre n (cutH T (t.1, t.2 - min t.2 b.2)) (cutH B (b.1, b.2 - min t.2 b.2)) - min t.2 b.2 * (t.1 + b.1) else 0
  | _, _, _ => 0
def bT (T : List (Int × Int)) (d : Int) : Int := (T.map fun t => t.2 * max 0 (d - t.1)).sum
theorem bT_cons {t : Int × Int} {T : List (Int × Int)} {d : Int} : bT (t :: T) d = t.2 * max 0 (d - t.1) + bT T d := by unfold bT; rw [List.map_cons, List.sum_cons]
theorem bT_cut {t : Int × Int} {T : List (Int × Int)} {d : Int} : bT (cutH T t) d = t.2 * max 0 (d - t.1) + bT T d := by
  unfold cutH
  by_cases c : t.2 = 0
  · rw [if_pos c, c]; omega
  · rw [if_neg c, bT_cons]
theorem bT_nn {d : Int} : ∀ {T : List (Int × Int)}, (∀ t ∈ T, 0 ≤ t.2) → 0 ≤ bT T d
  | [], _ => Int.le_refl _
  | t :: T, h => by
    have := bT_nn (d := d) (T := T) fun y hy => h y (by simp [hy])
    have h2 := Int.mul_nonneg (h t (by simp)) (show 0 ≤ max 0 (d - t.1) by omega)
    rw [bT_cons]; omega
theorem bT_zero {d : Int} : ∀ {T : List (Int × Int)}, (∀ t ∈ T, d ≤ t.1) → bT T d = 0
  | [], _ => rfl
  | t :: T, h => by
    have := h t (by simp)
    rw [bT_cons, bT_zero fun y hy => h y (by simp [hy]), show max 0 (d - t.1) = 0 by omega]; simp
theorem cut_mem {t x : Int × Int} {T : List (Int × Int)} (h : x ∈ cutH T t) : x = t ∨ x ∈ T := by
  unfold cutH at h
  split at h
  · exact .inr h
  · exact List.mem_cons.mp h
theorem cut_len {t : Int × Int} {T : List (Int × Int)} : (cutH T t).length ≤ T.length + 1 ∧ (t.2 = 0 → (cutH T t).length = T.length) := by
  unfold cutH
  split
  · exact ⟨by omega, fun _ => rfl⟩
  · rename_i h
    exact ⟨by simp, fun e => absurd e h⟩
theorem cut_sort {t : Int × Int} {T : List (Int × Int)} {r : Int} (h : (t :: T).Pairwise fun a b => a.1 ≤ b.1) : (cutH T (t.1, r)).Pairwise fun a b => a.1 ≤ b.1 := by
  obtain ⟨h1, h2⟩ := List.pairwise_cons.mp h
  unfold cutH
  split
  · exact h2
  · exact List.pairwise_cons.mpr ⟨h1, h2⟩
theorem gre_low {d : Int} : ∀ {n : Nat} {T B : List (Int × Int)}, (∀ t ∈ T, 0 ≤ t.2) → (∀ t ∈ B, 0 ≤ t.2) → gre n T B ≤ bT T d + bT B (-d)
  | 0, T, B, h1, h2 => by
    have a := bT_nn (d := d) h1
    have b := bT_nn (d := -d) h2
    show (0 : Int) ≤ _
    omega
  | n + 1, [], B, h1, h2 => by
    have a := bT_nn (d := d) h1
    have b := bT_nn (d := -d) h2
    show (0 : Int) ≤ _
    omega
  | n + 1, t :: T, [], h1, h2 => by
    have a := bT_nn (d := d) h1
    have b := bT_nn (d := -d) h2
    show (0 : Int) ≤ _
    omega
  | n + 1, t :: T, b :: B, h1, h2 => by
    rw [gre]
    by_cases c : t.1 + b.1 < 0
    · rw [if_pos c]
      have t0 := h1 t (by simp)
      have b0 := h2 b (by simp)
      have hp0 : 0 ≤ min t.2 b.2 := by omega
      have hp1 : min t.2 b.2 ≤ t.2 := by omega
      have hp2 : min t.2 b.2 ≤ b.2 := by omega
      generalize min t.2 b.2 = m at *
      have ih := gre_low (d := d) (n := n) (T := cutH T (t.1, t.2 - m)) (B := cutH B (b.1, b.2 - m)) (fun x hx => by
        rcases cut_mem hx with rfl | hx
        · show 0 ≤ t.2 - m; omega
        · exact h1 x (by simp [hx])) (fun x hx => by
        rcases cut_mem hx with rfl | hx
        · show 0 ≤ b.2 - m; omega
        · exact h2 x (by simp [hx]))
      rw [bT_cut, bT_cut] at ih
      rw [bT_cons, bT_cons]
      have e1 : (t.2 - m) * max 0 (d - t.1) = t.2 * max 0 (d - t.1) - m * max 0 (d - t.1) := Int.sub_mul _ _ _
      have e2 : (b.2 - m) * max 0 (-d - b.1) = b.2 * max 0 (-d - b.1) - m * max 0 (-d - b.1) := Int.sub_mul _ _ _
      have e3 : m * (-(t.1 + b.1)) ≤ m * (max 0 (d - t.1) + max 0 (-d - b.1)) := Int.mul_le_mul_of_nonneg_left (by omega) hp0
      rw [Int.mul_add, Int.mul_neg] at e3
      have ih : gre n (cutH T (t.1, t.2 - m)) (cutH B (b.1, b.2 - m)) ≤ (t.2 - m) * max 0 (d - t.1) + bT T d + ((b.2 - m) * max 0 (-d - b.1) + bT B (-d)) := ih
      omega
    · rw [if_neg c]
      have a := bT_nn (d := d) h1
      have b := bT_nn (d := -d) h2
      omega
theorem gre_best : ∀ {n : Nat} {T B : List (Int × Int)} {W1 W2 : Int}, (∀ t ∈ T, 0 ≤ t.2) → (∀ t ∈ B, 0 ≤ t.2) → (T.Pairwise fun a b => a.1 ≤ b.1) → (B.Pairwise fun a b => a.1 ≤ b.1) → T.length + B.length ≤ n →
    (∀ t ∈ T, -t.1 ≤ W1) → (∀ t ∈ B, -t.1 ≤ W2) → 0 ≤ W1 + W2 → ∃ d, -W1 ≤ d ∧ d ≤ W2 ∧ bT T d + bT B (-d) = gre n T B
  | n, [], B, W1, W2, h1, h2, s1, s2, hl, w1, w2, hw => by
    refine ⟨W2, by omega, Int.le_refl _, ?_⟩
    rw [bT_zero (T := B) fun t ht => by have := w2 t ht; omega]
    cases n <;> rfl
  | n, t :: T, [], W1, W2, h1, h2, s1, s2, hl, w1, w2, hw => by
    refine ⟨-W1, Int.le_refl _, by omega, ?_⟩
    rw [bT_zero (T := t :: T) fun x hx => by have := w1 x hx; omega]
    cases n <;> rfl
  | 0, t :: T, b :: B, W1, W2, h1, h2, s1, s2, hl, w1, w2, hw => by simp at hl
  | n + 1, t :: T, b :: B, W1, W2, h1, h2, s1, s2, hl, w1, w2, hw => by
    have wt := w1 t (by simp)
    have wb := w2 b (by simp)
    obtain ⟨st, _⟩ := List.pairwise_cons.mp s1
    obtain ⟨sb, _⟩ := List.pairwise_cons.mp s2
    rw [gre]
    by_cases c : t.1 + b.1 < 0
    · rw [if_pos c]
      have t0 := h1 t (by simp)
      have b0 := h2 b (by simp)
      have hp0 : 0 ≤ min t.2 b.2 := by omega
      have hp1 : min t.2 b.2 ≤ t.2 := by omega
      have hp2 : min t.2 b.2 ≤ b.2 := by omega
      have hp3 : t.2 - min t.2 b.2 = 0 ∨ b.2 - min t.2 b.2 = 0 := by omega
      generalize min t.2 b.2 = m at *
      have hlen : (cutH T (t.1, t.2 - m)).length + (cutH B (b.1, b.2 - m)).length ≤ n := by
        have a1 := cut_len (t := (t.1, t.2 - m)) (T := T)
        have a2 := cut_len (t := (b.1, b.2 - m)) (T := B)
        simp only [List.length_cons] at hl
        rcases hp3 with e | e
        · have := a1.2 e; have := a2.1; omega
        · have := a2.2 e; have := a1.1; omega
      obtain ⟨d, d1, d2, ih⟩ := gre_best (n := n) (T := cutH T (t.1, t.2 - m)) (B := cutH B (b.1, b.2 - m)) (W1 := -t.1) (W2 := -b.1) (fun x hx => by
        rcases cut_mem hx with rfl | hx
        · show 0 ≤ t.2 - m; omega
        · exact h1 x (by simp [hx])) (fun x hx => by
        rcases cut_mem hx with rfl | hx
        · show 0 ≤ b.2 - m; omega
        · exact h2 x (by simp [hx])) (cut_sort s1) (cut_sort s2) hlen (fun x hx => by
        rcases cut_mem hx with rfl | hx
        · exact Int.le_refl _
        · have := st x hx; omega) (fun x hx => by
        rcases cut_mem hx with rfl | hx
        · exact Int.le_refl _
        · have := sb x hx; omega) (by omega)
      refine ⟨d, by omega, by omega, ?_⟩
      rw [bT_cut, bT_cut] at ih
      have ih : (t.2 - m) * max 0 (d - t.1) + bT T d + ((b.2 - m) * max 0 (-d - b.1) + bT B (-d)) = gre n (cutH T (t.1, t.2 - m)) (cutH B (b.1, b.2 - m)) := ih
      rw [← ih, bT_cons, bT_cons, Int.sub_mul, Int.sub_mul]
      have e3 : m * (-(t.1 + b.1)) = m * max 0 (d - t.1) + m * max 0 (-d - b.1) := by
        rw [← Int.mul_add]; congr 1; omega
      rw [Int.mul_neg] at e3
      omega
    · rw [if_neg c]
      refine ⟨max (-b.1) (-W1), by omega, by omega, ?_⟩
      rw [bT_zero (T := t :: T) fun x hx => ?_, bT_zero (T := b :: B) fun x hx => ?_]
      · rfl
      · rcases List.mem_cons.mp hx with rfl | hx
        · omega
        · have := sb x hx; omega
      · rcases List.mem_cons.mp hx with rfl | hx
        · omega
        · have := st x hx; omega
theorem bT_perm {d : Int} {T T' : List (Int × Int)} (h : T.Perm T') : bT T d = bT T' d := by
  induction h with
  | nil => rfl
  | cons x _ ih => rw [bT_cons, bT_cons, ih]
  | swap x y l => rw [bT_cons, bT_cons, bT_cons, bT_cons]; omega
  | trans _ _ h1 h2 => rw [h1, h2]
def keyA (x : Arc) : Int × Int := (0 - x.2.2.2, x.2.2.1)
def thereA (one : Int) (arcs : List Arc) : List (Int × Int) := (arcs.filter fun x => decide (x.1 = one)).map keyA
def backsA (one : Int) (arcs : List Arc) : List (Int × Int) := (arcs.filter fun x => decide (x.1 ≠ one)).map keyA
theorem two_bound {one b : Int} {q : Int → Int} (hne : one ≠ b) : ∀ {arcs : List Arc}, (∀ x ∈ arcs, (x.1 = one ∧ x.2.1 = b) ∨ (x.1 = b ∧ x.2.1 = one)) → boundF arcs q = bT (thereA one arcs) (q b - q one) + bT (backsA one arcs) (-(q b - q one))
  | [], _ => rfl
  | x :: xs, h => by
    have ih := two_bound (q := q) hne (arcs := xs) fun y hy => h y (by simp [hy])
    rw [boundF_cons, ih]
    unfold thereA backsA
    rw [List.filter_cons, List.filter_cons]
    rcases h x (by simp) with ⟨e1, e2⟩ | ⟨e1, e2⟩
    · rw [if_pos (by simpa using e1), if_neg (by simpa using e1), List.map_cons, bT_cons]
      show x.2.2.1 * max 0 (x.2.2.2 - q x.1 + q x.2.1) + _ = x.2.2.1 * max 0 (q b - q one - (0 - x.2.2.2)) + _ + _
      rw [e1, e2, show x.2.2.2 - q one + q b = q b - q one - (0 - x.2.2.2) by omega]; omega
    · have hn : ¬ x.1 = one := fun z => hne (by rw [← z, e1])
      rw [if_neg (by simpa using hn), if_pos (by simpa using hn), List.map_cons, bT_cons]
      show x.2.2.1 * max 0 (x.2.2.2 - q x.1 + q x.2.1) + _ = _ + (x.2.2.1 * max 0 (-(q b - q one) - (0 - x.2.2.2)) + _)
      rw [e1, e2, show x.2.2.2 - q b + q one = -(q b - q one) - (0 - x.2.2.2) by omega]; omega
theorem upK : ∀ T : List (Int × Int), ∃ K : Int, 0 ≤ K ∧ ∀ t ∈ T, -t.1 ≤ K
  | [] => ⟨0, Int.le_refl _, fun t h => (by cases h)⟩
  | t :: T => by
    obtain ⟨K, h0, h⟩ := upK T
    refine ⟨max K (-t.1), by omega, fun x hx => ?_⟩
    rcases List.mem_cons.mp hx with rfl | hx
    · omega
    · have := h x hx; omega
theorem two_known {one b : Int} {arcs : List Arc} {T B : List (Int × Int)} {n : Nat} (hne : one ≠ b) (h : ∀ x ∈ arcs, (x.1 = one ∧ x.2.1 = b) ∨ (x.1 = b ∧ x.2.1 = one)) (hr : RoomNN arcs) (hT : T.Perm (thereA one arcs)) (hB : B.Perm (backsA one arcs))
    (sT : T.Pairwise fun a b => a.1 ≤ b.1) (sB : B.Pairwise fun a b => a.1 ≤ b.1) (hn : T.length + B.length ≤ n) :
    (∀ q, gre n T B ≤ boundF arcs q) ∧ ∀ q0 : Int → Int, ∃ q, (∀ x, x ≠ b → q x = q0 x) ∧ boundF arcs q = gre n T B := by
  have hk : ∀ {f : Arc → Bool} {t : Int × Int}, t ∈ (arcs.filter f).map keyA → 0 ≤ t.2 := fun {f t} ht => by
    obtain ⟨x, hx, rfl⟩ := List.mem_map.mp ht
    exact hr x (List.mem_filter.mp hx).1
  have h1 : ∀ t ∈ T, 0 ≤ t.2 := fun t ht => hk (hT.mem_iff.mp ht)
  have h2 : ∀ t ∈ B, 0 ≤ t.2 := fun t ht => hk (hB.mem_iff.mp ht)
  refine ⟨fun q => ?_, fun q0 => ?_⟩
  · rw [two_bound hne h, ← bT_perm hT, ← bT_perm hB]
    exact gre_low h1 h2
  · obtain ⟨K1, k1, k2⟩ := upK T
    obtain ⟨K2, k3, k4⟩ := upK B
    obtain ⟨d, _, _, hd⟩ := gre_best h1 h2 sT sB hn k2 k4 (by omega)
    refine ⟨fun x => if x = b then q0 one + d else q0 x, fun x hx => if_neg hx, ?_⟩
    rw [two_bound hne h, ← bT_perm hT, ← bT_perm hB]
    show bT T ((if b = b then q0 one + d else q0 b) - (if one = b then q0 one + d else q0 one)) + bT B (-((if b = b then q0 one + d else q0 b) - (if one = b then q0 one + d else q0 one))) = _
    rw [if_pos rfl, if_neg hne, show q0 one + d - q0 one = d by omega]
    exact hd
end Circ

set_option Elab.async false
set_option linter.all false
set_option maxRecDepth 100000
set_option maxHeartbeats 4000000
/-! HRc: the defs of circling, walked. -/
namespace HRc
open PySem PySem.Spec PyProof.Rows L2 MP Circ
local macro_rules
  | `(tactic| contradiction) => `(tactic| first | with_reducible refine d_in ?_ | with_reducible refine s_nil ?_ | with_reducible refine s_seq ?_ | with_reducible refine s_asg ?_ | with_reducible refine s_par ?_ | with_reducible refine s_expr ?_ | with_reducible refine s_ret ?_ | with_reducible refine s_retN ?_ | with_reducible refine s_iff ?_ | with_reducible refine s_fr ?_ | with_reducible refine s_cont ?_ | with_reducible refine s_brk ?_ | with_reducible refine s_pass ?_ | with_reducible refine s_augS ?_ | with_reducible refine e_int ?_ | with_reducible refine e_str ?_ | with_reducible refine e_bool ?_ | with_reducible refine e_none ?_ | with_reducible refine e_bin ?_ | with_reducible refine e_neg ?_ | with_reducible refine e_nt ?_ | with_reducible refine e_cmp ?_ | with_reducible refine e_chain ?_ | with_reducible refine e_an ?_ | with_reducible refine e_or ?_ | with_reducible refine an_1 ?_ | with_reducible refine an_2 ?_ | with_reducible refine or_1 ?_ | with_reducible refine or_2 ?_ | with_reducible refine e_ife ?_ | with_reducible refine e_call ?_ | with_reducible refine e_blt ?_ | with_reducible refine e_mth ?_ | with_reducible refine e_idx ?_ | with_reducible refine e_slc ?_ | with_reducible refine e_rev ?_ | with_reducible refine e_tup ?_ | with_reducible refine e_lst ?_ | with_reducible refine e_dnew ?_ | with_reducible refine e_dct ?_ | with_reducible refine e_isi ?_ | with_reducible refine e_lrg ?_ | with_reducible refine es_n ?_ | with_reducible refine es_c ?_ | with_reducible refine o_nil ?_ | with_reducible refine o_var ?_ | with_reducible refine o_cst ?_ | with_reducible refine o_bin ?_ | with_reducible refine o_neg ?_ | with_reducible refine o_blt ?_ | with_reducible refine o_call ?_ | with_reducible refine ik ?_ | with_reducible refine ng ?_ | with_reducible refine tq_bl ?_ | with_reducible refine tq_int ?_ | with_reducible refine tq_non ?_ | with_reducible refine tq_lst ?_ | with_reducible refine tq_tup ?_ | with_reducible refine t_var ?_ | with_reducible refine t_call ?_ | with_reducible refine t_blt ?_ | with_reducible refine t_mth ?_ | with_reducible refine t_idx ?_ | with_reducible refine t_isi ?_ | with_reducible refine t_cst ?_ | with_reducible refine t_nt ?_ | with_reducible refine t_cmp ?_ | with_reducible refine t_chain ?_ | with_reducible refine t_an ?_ | with_reducible refine t_or ?_ | with_reducible refine ant_1 ?_ | with_reducible refine ant_2 ?_ | with_reducible refine ort_1 ?_ | with_reducible refine ort_2 ?_ | with_reducible refine tr_bl ?_ | with_reducible refine tr_int ?_ | with_reducible refine tr_lst ?_ | with_reducible refine tr_non ?_ | with_reducible refine c_nil ?_ | with_reducible refine c_one ?_ | with_reducible refine g_sub ?_ | with_reducible refine gs_n ?_ | with_reducible refine gs_c ?_ | with_reducible refine i_seq ?_ | with_reducible refine i_rng1 ?_ | with_reducible refine i_rng2 ?_ | with_reducible refine i_rng3 ?_ | with_reducible refine i_zip ?_ | with_reducible refine i_enm ?_ | with_reducible refine b_add ?_ | with_reducible refine b_sub ?_ | with_reducible refine c_lt ?_ | with_reducible refine c_le ?_ | with_reducible refine c_gt ?_ | with_reducible refine c_ge ?_ | with_reducible refine mk_f ?_ | with_reducible refine ref_and ?_ | with_reducible refine u_set ?_ | with_reducible refine eq_i ?_ | with_reducible refine ne_i ?_ | with_reducible refine eq_b ?_ | with_reducible refine ne_b ?_ | with_reducible refine is_b ?_ | with_reducible refine isn_b ?_ | with_reducible refine is_n ?_ | with_reducible refine isn_n ?_ | with_reducible refine e_v0 ?_ | with_reducible refine g_v0 ?_ | with_reducible refine s_u0 ?_ | with_reducible refine e_v1 ?_ | with_reducible refine g_v1 ?_ | with_reducible refine s_u1 ?_ | with_reducible refine e_v2 ?_ | with_reducible refine g_v2 ?_ | with_reducible refine s_u2 ?_ | with_reducible refine e_v3 ?_ | with_reducible refine g_v3 ?_ | with_reducible refine s_u3 ?_ | with_reducible refine e_v4 ?_ | with_reducible refine g_v4 ?_ | with_reducible refine s_u4 ?_ | with_reducible refine e_v5 ?_ | with_reducible refine g_v5 ?_ | with_reducible refine s_u5 ?_ | with_reducible refine e_v6 ?_ | with_reducible refine g_v6 ?_ | with_reducible refine s_u6 ?_ | with_reducible refine e_v7 ?_ | with_reducible refine g_v7 ?_ | with_reducible refine s_u7 ?_ | with_reducible refine e_v8 ?_ | with_reducible refine g_v8 ?_ | with_reducible refine s_u8 ?_ | with_reducible refine e_v9 ?_ | with_reducible refine g_v9 ?_ | with_reducible refine s_u9 ?_ | with_reducible refine e_v10 ?_ | with_reducible refine g_v10 ?_ | with_reducible refine s_u10 ?_ | with_reducible refine e_v11 ?_ | with_reducible refine g_v11 ?_ | with_reducible refine s_u11 ?_ | with_reducible refine e_v12 ?_ | with_reducible refine g_v12 ?_ | with_reducible refine s_u12 ?_ | with_reducible refine e_v13 ?_ | with_reducible refine g_v13 ?_ | with_reducible refine s_u13 ?_ | with_reducible refine e_v14 ?_ | with_reducible refine g_v14 ?_ | with_reducible refine s_u14 ?_ | with_reducible refine e_v15 ?_ | with_reducible refine g_v15 ?_ | with_reducible refine s_u15 ?_ | with_reducible refine e_v16 ?_ | with_reducible refine g_v16 ?_ | with_reducible refine s_u16 ?_ | with_reducible refine e_v17 ?_ | with_reducible refine g_v17 ?_ | with_reducible refine s_u17 ?_ | with_reducible refine e_v18 ?_ | with_reducible refine g_v18 ?_ | with_reducible refine s_u18 ?_ | with_reducible refine e_v19 ?_ | with_reducible refine g_v19 ?_ | with_reducible refine s_u19 ?_ | ((with_reducible refine e_lc' (ρ' := ?rr) ?hw ?_); (case hw => (dsimp only [wipeW, List.map, List.set]; exact rfl))) | ((with_reducible refine g_tup ?hl ?_); (case hl => exact rfl)) | with_reducible refine b_mod (by first | decide | omega) ?_ | ((with_reducible refine b_pow (pow_ok (by decide) (by decide) (by decide)) ?_); simp only [Int.reduceToNat, Int.reducePow]) | with_reducible refine le_and (by simp only [List.length_cons, List.length_nil]; decide) ?_ | with_reducible refine l_intB ?_ | with_reducible refine l_intI ?_ | with_reducible refine sl_f ?_ | (refine l_len (by exact rfl) (q := ?_); skip) | (refine l_list (by exact rfl) ?_; skip) | (refine ix_t (by exact rfl) ?_; skip))

/-! halves_of -/
def N_halves_of : List Str := ["arcs", "flows", "found", "number", "begin", "end", "room", "own"]
def P_halves_of : List Str := ["arcs", "flows"]
def c_halves_of : CS :=
  (.seq (.asg (.tnm 2) (.lst true .nil)) (.seq (.fr (.ttup (.cons (.tnm 3) (.cons (.ttup (.cons (.tnm 4) (.cons (.tnm 5) (.cons (.tnm 6) (.cons (.tnm 7) .nil))))) .nil))) (.ienm (.var 0)) (.seq (.iff (.cmp .Lt (.idx (.var 1) (.var 3)) (.var 6)) (.seq (.expr (.mth .append (.var 2) (.cons (.tup (.cons (.var 4) (.cons (.var 5) (.cons (.var 7) (.cons (.var 3) (.cons (.cst (.int 1)) .nil)))))) .nil))) .nil) .nil) (.seq (.iff (.cmp .Gt (.idx (.var 1) (.var 3)) (.cst (.int 0))) (.seq (.expr (.mth .append (.var 2) (.cons (.tup (.cons (.var 5) (.cons (.var 4) (.cons (.bin false .sub (.cst (.int 0)) (.var 7)) (.cons (.var 3) (.cons (.neg (.cst (.int 1))) .nil)))))) .nil))) .nil) .nil) .nil))) (.seq (.gfrz 2) (.seq (.ret (.var 2)) .nil))))
/-! ways_from -/
def N_ways_from : List Str := ["many", "halves", "begins", "most", "came", "place", "is_changed", "half", "more"]
def P_ways_from : List Str := ["many", "halves", "begins"]
def c_ways_from : CS :=
  (.seq (.asg (.tnm 3) (.bin true .mul (.lst false (.cons (.cst .none) .nil)) (.var 0))) (.seq (.asg (.tnm 4) (.bin true .mul (.lst false (.cons (.cst .none) .nil)) (.var 0))) (.seq (.fr (.tnm 5) (.iseq (.var 2)) (.seq (.asg (.tsub (.var 3) (.var 5)) (.tup (.cons (.cst (.int 0)) (.cons (.cst (.int 0)) .nil)))) .nil)) (.seq (.asg (.tnm 6) (.cst (.bool true))) (.seq (.whl (.var 6) (.seq (.asg (.tnm 6) (.cst (.bool false))) (.seq (.fr (.tnm 7) (.iseq (.var 1)) (.seq (.iff (.cmp .IsNot (.idx (.var 3) (.idx (.var 7) (.cst (.int 0)))) (.cst .none)) (.seq (.asg (.tnm 8) (.tup (.cons (.bin false .add (.idx (.idx (.var 3) (.idx (.var 7) (.cst (.int 0)))) (.cst (.int 0))) (.idx (.var 7) (.cst (.int 2)))) (.cons (.bin false .sub (.idx (.idx (.var 3) (.idx (.var 7) (.cst (.int 0)))) (.cst (.int 1))) (.cst (.int 1))) .nil)))) (.seq (.iff (.or (.cons (.cmp .Is (.idx (.var 3) (.idx (.var 7) (.cst (.int 1)))) (.cst .none)) (.cons (.cmp .Gt (.var 8) (.idx (.var 3) (.idx (.var 7) (.cst (.int 1))))) .nil))) (.seq (.asg (.tsub (.var 3) (.idx (.var 7) (.cst (.int 1)))) (.var 8)) (.seq (.asg (.tsub (.var 4) (.idx (.var 7) (.cst (.int 1)))) (.var 7)) (.seq (.asg (.tnm 6) (.cst (.bool true))) .nil))) .nil) .nil)) .nil) .nil)) .nil))) (.seq (.gfrz 3) (.seq (.gfrz 4) (.seq (.ret (.tup (.cons (.var 3) (.cons (.var 4) .nil)))) .nil))))))))
/-! way_to -/
def N_way_to : List Str := ["came", "end", "found", "place"]
def P_way_to : List Str := ["came", "end"]
def c_way_to : CS :=
  (.seq (.asg (.tnm 2) (.lst true .nil)) (.seq (.asg (.tnm 3) (.var 1)) (.seq (.whl (.cmp .IsNot (.idx (.var 0) (.var 3)) (.cst .none)) (.seq (.expr (.mth .append (.var 2) (.cons (.idx (.var 0) (.var 3)) .nil))) (.seq (.asg (.tnm 3) (.idx (.idx (.var 0) (.var 3)) (.cst (.int 0)))) .nil))) (.seq (.gfrz 2) (.seq (.ret (.var 2)) .nil)))))
/-! spares_of -/
def N_spares_of : List Str := ["many", "arcs", "flows", "found", "flow", "begin", "end", "room", "own"]
def P_spares_of : List Str := ["many", "arcs", "flows"]
def c_spares_of : CS :=
  (.seq (.asg (.tnm 3) (.bin true .mul (.lst false (.cons (.cst (.int 0)) .nil)) (.var 0))) (.seq (.fr (.ttup (.cons (.ttup (.cons (.tnm 5) (.cons (.tnm 6) (.cons (.tnm 7) (.cons (.tnm 8) .nil))))) (.cons (.tnm 4) .nil))) (.izip (.var 1) (.var 2)) (.seq (.augS (.var 3) (.var 5) true (.var 4)) (.seq (.augS (.var 3) (.var 6) false (.var 4)) .nil))) (.seq (.ret (.var 3)) .nil)))
/-! led_back -/
def N_led_back : List Str := ["arcs", "flows", "spares", "way", "rooms", "half", "begin", "end"]
def P_led_back : List Str := ["arcs", "flows", "spares", "way"]
def c_led_back : CS :=
  (.seq (.par [6, 7] (.cons (.idx (.idx (.var 3) (.neg (.cst (.int 1)))) (.cst (.int 0))) (.cons (.idx (.idx (.var 3) (.cst (.int 0))) (.cst (.int 1))) .nil))) (.seq (.asg (.tnm 4) (.lst true (.cons (.idx (.var 2) (.var 6)) (.cons (.bin false .sub (.cst (.int 0)) (.idx (.var 2) (.var 7))) .nil)))) (.seq (.fr (.tnm 5) (.iseq (.var 3)) (.seq (.expr (.mth .append (.var 4) (.cons (.ife (.cmp .Eq (.idx (.var 5) (.cst (.int 4))) (.cst (.int 1))) (.bin false .sub (.idx (.idx (.var 0) (.idx (.var 5) (.cst (.int 3)))) (.cst (.int 2))) (.idx (.var 1) (.idx (.var 5) (.cst (.int 3))))) (.idx (.var 1) (.idx (.var 5) (.cst (.int 3))))) .nil))) .nil)) (.seq (.fr (.tnm 5) (.iseq (.var 3)) (.seq (.augS (.var 1) (.idx (.var 5) (.cst (.int 3))) false (.bin false .mul (.idx (.var 5) (.cst (.int 4))) (.blt .minL false (.cons (.var 4) .nil)))) .nil)) (.seq (.augS (.var 2) (.var 6) true (.blt .minL false (.cons (.var 4) .nil))) (.seq (.augS (.var 2) (.var 7) false (.blt .minL false (.cons (.var 4) .nil))) .nil))))))
/-! circulation -/
def N_circulation : List Str := ["many", "arcs", "flows", "spares", "begins", "ends", "most", "came", "arc", "place", "one"]
def P_circulation : List Str := ["many", "arcs"]
def c_circulation (i_spares_of i_ways_from i_led_back i_halves_of i_way_to : Nat) : CS :=
  (.seq (.asg (.tnm 2) (.lc true [("arc", 8)] (.tnm 8) (.iseq (.var 1)) .nil (.ife (.cmp .Gt (.idx (.var 8) (.cst (.int 3))) (.cst (.int 0))) (.idx (.var 8) (.cst (.int 2))) (.cst (.int 0))))) (.seq (.asg (.tnm 3) (.call i_spares_of (.cons (.var 0) (.cons (.var 1) (.cons (.var 2) .nil))))) (.seq (.asg (.tnm 4) (.lc false [("place", 9)] (.tnm 9) (.irng1 (.var 0)) (.cons (.cmp .Gt (.idx (.var 3) (.var 9)) (.cst (.int 0))) .nil) (.var 9))) (.seq (.whl (.cmp .NotEq (.var 4) (.lst false .nil)) (.seq (.asg (.ttup (.cons (.tnm 6) (.cons (.tnm 7) .nil))) (.call i_ways_from (.cons (.var 0) (.cons (.call i_halves_of (.cons (.var 1) (.cons (.var 2) .nil))) (.cons (.var 4) .nil))))) (.seq (.asg (.tnm 5) (.lc false [("place", 9)] (.tnm 9) (.irng1 (.var 0)) (.cons (.an (.cons (.cmp .Lt (.idx (.var 3) (.var 9)) (.cst (.int 0))) (.cons (.cmp .IsNot (.idx (.var 6) (.var 9)) (.cst .none)) .nil))) .nil) (.tup (.cons (.idx (.var 6) (.var 9)) (.cons (.bin false .sub (.cst (.int 0)) (.var 9)) .nil))))) (.seq (.expr (.call i_led_back (.cons (.var 1) (.cons (.var 2) (.cons (.var 3) (.cons (.call i_way_to (.cons (.var 7) (.cons (.bin false .sub (.cst (.int 0)) (.idx (.blt .maxD false (.cons (.var 5) .nil)) (.cst (.int 1)))) .nil))) .nil)))))) (.seq (.asg (.tnm 4) (.lc false [("place", 9)] (.tnm 9) (.irng1 (.var 0)) (.cons (.cmp .Gt (.idx (.var 3) (.var 9)) (.cst (.int 0))) .nil) (.var 9))) .nil))))) (.seq (.asg (.ttup (.cons (.tnm 6) (.cons (.tnm 7) .nil))) (.call i_ways_from (.cons (.var 0) (.cons (.call i_halves_of (.cons (.var 1) (.cons (.var 2) .nil))) (.cons (.lrg false (.var 0)) .nil))))) (.seq (.ret (.tup (.cons (.var 2) (.cons (.lc true [("one", 10)] (.tnm 10) (.iseq (.var 6)) .nil (.bin false .sub (.idx (.idx (.var 6) (.cst (.int 0))) (.cst (.int 0))) (.idx (.var 10) (.cst (.int 0))))) .nil)))) .nil))))))

abbrev arcW (x : Arc) : W := .tup [.int x.1, .int x.2.1, .int x.2.2.1, .int x.2.2.2]
abbrev halfW (x : Half) : W := .tup [.int x.1, .int x.2.1, .int x.2.2.1, .int x.2.2.2.1, .int x.2.2.2.2]
abbrev valW (v : Val) : W := .tup [.int v.1, .int v.2]
def optW {α : Type} (f : α → W) : Option α → W
  | none => .non
  | some x => f x
abbrev iO (ns : List Int) : Ob := .lst (ns.map W.int)
abbrev iL (ns : List Int) : W := .lst (ns.map W.int)
/-! ### halves_of -/
def spHalves : MP.Spec := fun ws S Q _ => ∃ (x : W) (fa : Addr) (arcs : List Arc) (fl : List Int), ws = [x, .ref fa] ∧ rdL S x = some (arcs.map arcW) ∧ S fa = some (iO fl) ∧ fl.length = arcs.length ∧ arcs.length ≤ 1000 ∧
  Q (.lst ((halvesM arcs fl 0).map halfW)) S
theorem halves_len : ∀ {arcs : List Arc} {fl : List Int} {i : Nat}, (halvesM arcs fl i).length ≤ 2 * arcs.length
  | [], fl, i => by simp [halvesM]
  | x :: xs, [], i => by simp [halvesM]
  | x :: xs, f :: fs, i => by
    have := halves_len (arcs := xs) (fl := fs) (i := i + 1)
    have h2 : (halvesAt x f i).length ≤ 2 := by
      unfold halvesAt
      by_cases h1 : f < x.2.2.1 <;> by_cases h2 : 0 < f <;> simp [h1, h2]
    rw [halvesM, List.length_append, List.length_cons]
    omega
theorem halves_snoc : ∀ {arcs : List Arc} {fl : List Int} {k i : Nat} {x : Arc} {f : Int}, arcs[i]? = some x → fl[i]? = some f → halvesM (arcs.take (i + 1)) (fl.take (i + 1)) k = halvesM (arcs.take i) (fl.take i) k ++ halvesAt x f (k + i)
  | [], _, _, _, _, _, h, _ => by simp at h
  | _ :: _, [], _, _, _, _, _, h => by simp at h
  | y :: ys, g :: gs, k, 0, x, f, h1, h2 => by
    simp at h1 h2
    subst h1; subst h2
    simp [halvesM]
  | y :: ys, g :: gs, k, i + 1, x, f, h1, h2 => by
    have := halves_snoc (arcs := ys) (fl := gs) (k := k + 1) (i := i) (x := x) (f := f) (by simpa using h1) (by simpa using h2)
    rw [show k + 1 + i = k + (i + 1) by omega] at this
    rw [List.take_succ_cons, List.take_succ_cons, halvesM, this, List.take_succ_cons, List.take_succ_cons, halvesM, List.append_assoc]
theorem ok_halves_of {Φ : Nat → MP.Spec} {ws : List W} {S : Sto} {Q : WK} {X X0 : XC} (h : spHalves ws S Q X) : wps Φ c_halves_of (startW N_halves_of ws) S (dEnds Q X0) := by
  obtain ⟨x, fa, arcs, fl, rfl, hx, hf, hl, h9, q⟩ := h
  unfold c_halves_of
  show wps Φ _ [some x, some (.ref fa), none, none, none, none, none, none] S (dEnds Q X0)
  repeat' contradiction
  refine mk_t fun p hp => ?_
  have hpf : p ≠ fa := ne_new hf hp
  repeat' contradiction
  refine ⟨_, rdl_new hx hp, ?_⟩
  refine for_enm (fun i ρ S' => ∃ r3 r4 r5 r6 r7, ρ = [some x, some (.ref fa), some (.ref p), r3, r4, r5, r6, r7] ∧ S' = sup S p (.lst ((halvesM (arcs.take i) (fl.take i) 0).map halfW)))
    ⟨_, _, _, _, _, rfl, rfl⟩ (fun i ρ S' h => ?_) (fun i a ρ S' ex h K hK => ?_) (fun ρ S' h => ?_)
  · obtain ⟨_, _, _, _, _, rfl, rfl⟩ := h
    exact rdl_new hx hp
  · obtain ⟨r3, r4, r5, r6, r7, rfl, rfl⟩ := h
    have hi := (List.getElem?_eq_some_iff.mp ex).1
    obtain ⟨f, ef⟩ : ∃ f, fl[i]? = some f := ⟨_, List.getElem?_eq_getElem (by omega)⟩
    have hfa : ∀ {o}, (sup S p o) fa = some (iO fl) := by intro o; rw [sup_ne hpf.symm]; exact hf
    have hlen : ((halvesM (arcs.take i) (fl.take i) 0).map halfW).length ≤ 2000 := by
      rw [List.length_map]
      have := halves_len (arcs := arcs.take i) (fl := fl.take i) (i := 0)
      rw [List.length_take] at this
      omega
    have fin : ∀ ws, ws = (halvesM (arcs.take i) (fl.take i) 0).map halfW ++ (halvesAt a f i).map halfW → ∀ r3 r4 r5 r6 r7, K [some x, some (.ref fa), some (.ref p), r3, r4, r5, r6, r7] (sup S p (.lst ws)) := fun ws hz r3 r4 r5 r6 r7 => by
      refine hK _ _ ⟨_, _, _, _, _, rfl, ?_⟩
      rw [halves_snoc ex ef, List.map_append, hz, Nat.zero_add]
    repeat' contradiction
    refine ix_mapc hfa (by omega) (by rw [show ((i : Nat) : Int).toNat = i by omega]; exact ef) ?_
    repeat' contradiction
    refine ite_d (fun c => ?_) (fun c => ?_)
    · repeat' contradiction
      refine m_rcv rfl sup_same ?_
      repeat' contradiction
      refine m_app sup_same (lt_line (by omega)) ?_
      rw [sup_sup]
      repeat' contradiction
      refine ix_mapc hfa (by omega) (by rw [show ((i : Nat) : Int).toNat = i by omega]; exact ef) ?_
      repeat' contradiction
      refine ite_d (fun c2 => ?_) (fun c2 => ?_)
      · repeat' contradiction
        refine m_rcv rfl sup_same ?_
        repeat' contradiction
        refine m_app sup_same (lt_line (by rw [List.length_append]; simp only [List.length_cons, List.length_nil]; omega)) ?_
        rw [sup_sup, List.append_assoc]
        repeat' contradiction
        exact fin _ (by unfold halvesAt; rw [if_pos c, if_pos c2]; simp) _ _ _ _ _
      · repeat' contradiction
        exact fin _ (by unfold halvesAt; rw [if_pos c, if_neg c2]; simp) _ _ _ _ _
    · repeat' contradiction
      refine ix_mapc hfa (by omega) (by rw [show ((i : Nat) : Int).toNat = i by omega]; exact ef) ?_
      repeat' contradiction
      refine ite_d (fun c2 => ?_) (fun c2 => ?_)
      · repeat' contradiction
        refine m_rcv rfl sup_same ?_
        repeat' contradiction
        refine m_app sup_same (lt_line (by omega)) ?_
        rw [sup_sup]
        repeat' contradiction
        exact fin _ (by unfold halvesAt; rw [if_neg c, if_pos c2]; simp) _ _ _ _ _
      · repeat' contradiction
        exact fin _ (by unfold halvesAt; rw [if_neg c, if_neg c2]; simp) _ _ _ _ _
  · obtain ⟨r3, r4, r5, r6, r7, rfl, rfl⟩ := h
    repeat' contradiction
    refine s_gf2 sup_same ?_
    rw [sdel_sup hp]
    repeat' contradiction
    rw [List.take_length, ← hl, List.take_length]
    exact d_same q
/-! ### order -/
theorem ltT_cons {x y : PyData} {xs ys : List PyData} (h : PySem.W.alike x y = true) : PySem.W.dataLt (.tuple (x :: xs)) (.tuple (y :: ys)) = if PyData.eqv x y = true then PySem.W.dataLt (.tuple xs) (.tuple ys) else PySem.W.dataLt x y := by
  rw [PySem.W.dataLt_tuple]
  cases e : PyData.eqv x y with
  | true => rw [PySem.W.dataLt_all_yes h e, if_pos rfl, PySem.W.dataLt_tuple]
  | false => rw [PySem.W.dataLt_all_no h e]; rfl
theorem ltT_nil : PySem.W.dataLt (.tuple []) (.tuple []) = false := by rw [PySem.W.dataLt_tuple]; decide +kernel
abbrev datV (v : Val) : PyData := .tuple [.int v.1, .int v.2]
theorem lt_val (a b : Val) : PySem.W.dataLt (datV a) (datV b) = vlt a b := by
  rw [ltT_cons (by rfl), ltT_cons (by rfl), ltT_nil, PySem.W.dataLt_int, PySem.W.dataLt_int]
  have e1 : PyData.eqv (.int a.1) (.int b.1) = (a.1 == b.1) := rfl
  have e2 : PyData.eqv (.int a.2) (.int b.2) = (a.2 == b.2) := rfl
  rw [e1, e2]
  unfold vlt
  by_cases c1 : a.1 = b.1
  · by_cases c2 : a.2 = b.2
    · simp [c1, c2]
    · simp [c1, c2]
  · simp [c1]
theorem vw_val {S : Sto} (v : Val) : Vw S (valW v) (datV v) := .tup (.cons (.int _) (.cons (.int _) .nil))
theorem gt_val {a b : Val} {S : Sto} {Q : Bool → Prop} (q : Q (vlt b a)) : cmpW .Gt (valW a) (valW b) S Q :=
  ⟨datV a, datV b, vw_val a, vw_val b, rfl, fun h => (by cases h), rfl, rfl, by rw [lt_val b a]; exact q⟩
abbrev endsW (e : Val × Int) : W := .tup [valW e.1, .int e.2]
abbrev datE (e : Val × Int) : PyData := .tuple [datV e.1, .int e.2]
theorem eqv_val (a b : Val) : PyData.eqv (datV a) (datV b) = decide (a = b) := by
  have : PyData.eqv (datV a) (datV b) = ((a.1 == b.1) && ((a.2 == b.2) && true)) := rfl
  rw [this, Bool.and_true, Bool.eq_iff_iff]
  simp [Prod.ext_iff]
theorem lt_ends (a b : Val × Int) : PySem.W.dataLt (datE a) (datE b) = ltE a b := by
  rw [ltT_cons (by rfl), ltT_cons (by rfl), ltT_nil, PySem.W.dataLt_int, lt_val, eqv_val]
  have e2 : PyData.eqv (.int a.2) (.int b.2) = (a.2 == b.2) := rfl
  rw [e2]
  unfold ltE
  by_cases c1 : a.1 = b.1
  · have : vlt b.1 b.1 = false := by unfold vlt; simp
    by_cases c2 : a.2 = b.2
    · simp [c1, c2, this]
    · simp [c1, c2, this]
  · simp [c1]
theorem maxD_ends : ∀ {es : List (Val × Int)} {e : Val × Int}, PySem.W.maxD (datE e) (es.map datE) = datE (maxE e es)
  | [], e => rfl
  | x :: xs, e => by
    have := maxD_ends (es := xs) (e := if ltE e x = true then x else e)
    unfold PySem.W.maxD maxE at *
    rw [List.map_cons, List.foldl_cons, List.foldl_cons, ← this, lt_ends]
    congr 1
    split <;> rfl
theorem vw_ends {S : Sto} (e : Val × Int) : Vw S (endsW e) (datE e) := .tup (.cons (vw_val _) (.cons (.int _) .nil))
theorem vws_ends {S : Sto} : ∀ es : List (Val × Int), VwL S (es.map endsW) (es.map datE)
  | [] => .nil
  | e :: es => .cons (vw_ends e) (vws_ends es)
theorem alike_ends (a b : Val × Int) : PySem.W.alike (datE a) (datE b) = true := rfl
theorem can_ends : ∀ es : List (Val × Int), PyData.canLayAll0 (es.map datE) = true
  | [] => rfl
  | e :: es => can_ends es
theorem dep_ends : ∀ es : List (Val × Int), PyData.depthAll (es.map datE) ≤ 2
  | [] => by decide
  | e :: es => by
    have := dep_ends es
    show max (datE e).depth (PyData.depthAll (es.map datE)) ≤ 2
    have h : (datE e).depth = 2 := rfl
    omega
theorem max_ends {e : Val × Int} {es : List (Val × Int)} {S : Sto} {Q : WK} {live : Bool} (q : Q (endsW (maxE e es)) S) : bltW live .maxD [.lst ((e :: es).map endsW)] S Q := by
  refine ⟨_, datE e, es.map datE, rfl, vws_ends (e :: es), ⟨fun x hx y hy => ?_, fun x hx h => ?_⟩, ?_, fun i w hw hd => ?_⟩
  · obtain ⟨a, _, rfl⟩ := List.mem_map.mp (show x ∈ (e :: es).map datE from hx)
    obtain ⟨b, _, rfl⟩ := List.mem_map.mp (show y ∈ (e :: es).map datE from hy)
    rfl
  · obtain ⟨a, _, rfl⟩ := List.mem_map.mp (show x ∈ (e :: es).map datE from hx)
    cases h
  · show (PyData.canLayAll0 ((e :: es).map datE) && decide (PyData.depthAll ((e :: es).map datE) + 1 ≤ 64)) = true
    have := dep_ends (e :: es)
    rw [can_ends, decide_eq_true (by omega)]; rfl
  · rw [maxD_ends] at hd
    rw [List.getElem?_map] at hw
    have hd : ((e :: es).map datE)[i]? = some (datE (maxE e es)) := hd
    rw [List.getElem?_map] at hd
    cases ex : (e :: es)[i]? with
    | none => rw [ex] at hw; cases hw
    | some x =>
      rw [ex] at hw hd
      cases hw
      have hd : some (datE x) = some (datE (maxE e es)) := hd
      have e1 : x = maxE e es := by
        have hd := Option.some.inj hd
        injection hd with hd
        injection hd with h1 h2
        injection h2 with h3 h4
        injection h1 with h1
        injection h1 with h5 h6
        injection h6 with h7 h8
        injection h5 with h5
        injection h7 with h7
        injection h3 with h3
        exact Prod.ext (Prod.ext h5 h7) h3
      rw [e1]; exact q
end HRc

set_option Elab.async false
set_option linter.all false
set_option maxRecDepth 100000
set_option maxHeartbeats 4000000
/-! HRd: the passes, walked. -/
namespace HRc
open PySem PySem.Spec PyProof.Rows L2 MP Circ
local macro_rules
  | `(tactic| contradiction) => `(tactic| first | with_reducible refine d_in ?_ | with_reducible refine s_nil ?_ | with_reducible refine s_seq ?_ | with_reducible refine s_asg ?_ | with_reducible refine s_par ?_ | with_reducible refine s_expr ?_ | with_reducible refine s_ret ?_ | with_reducible refine s_retN ?_ | with_reducible refine s_iff ?_ | with_reducible refine s_fr ?_ | with_reducible refine s_cont ?_ | with_reducible refine s_brk ?_ | with_reducible refine s_pass ?_ | with_reducible refine s_augS ?_ | with_reducible refine e_int ?_ | with_reducible refine e_str ?_ | with_reducible refine e_bool ?_ | with_reducible refine e_none ?_ | with_reducible refine e_bin ?_ | with_reducible refine e_neg ?_ | with_reducible refine e_nt ?_ | with_reducible refine e_cmp ?_ | with_reducible refine e_chain ?_ | with_reducible refine e_an ?_ | with_reducible refine e_or ?_ | with_reducible refine an_1 ?_ | with_reducible refine an_2 ?_ | with_reducible refine or_1 ?_ | with_reducible refine or_2 ?_ | with_reducible refine e_ife ?_ | with_reducible refine e_call ?_ | with_reducible refine e_blt ?_ | with_reducible refine e_mth ?_ | with_reducible refine e_idx ?_ | with_reducible refine e_slc ?_ | with_reducible refine e_rev ?_ | with_reducible refine e_tup ?_ | with_reducible refine e_lst ?_ | with_reducible refine e_dnew ?_ | with_reducible refine e_dct ?_ | with_reducible refine e_isi ?_ | with_reducible refine e_lrg ?_ | with_reducible refine es_n ?_ | with_reducible refine es_c ?_ | with_reducible refine o_nil ?_ | with_reducible refine o_var ?_ | with_reducible refine o_cst ?_ | with_reducible refine o_bin ?_ | with_reducible refine o_neg ?_ | with_reducible refine o_blt ?_ | with_reducible refine o_call ?_ | with_reducible refine ik ?_ | with_reducible refine ng ?_ | with_reducible refine tq_bl ?_ | with_reducible refine tq_int ?_ | with_reducible refine tq_non ?_ | with_reducible refine tq_lst ?_ | with_reducible refine tq_tup ?_ | with_reducible refine t_var ?_ | with_reducible refine t_call ?_ | with_reducible refine t_blt ?_ | with_reducible refine t_mth ?_ | with_reducible refine t_idx ?_ | with_reducible refine t_isi ?_ | with_reducible refine t_cst ?_ | with_reducible refine t_nt ?_ | with_reducible refine t_cmp ?_ | with_reducible refine t_chain ?_ | with_reducible refine t_an ?_ | with_reducible refine t_or ?_ | with_reducible refine ant_1 ?_ | with_reducible refine ant_2 ?_ | with_reducible refine ort_1 ?_ | with_reducible refine ort_2 ?_ | with_reducible refine tr_bl ?_ | with_reducible refine tr_int ?_ | with_reducible refine tr_lst ?_ | with_reducible refine tr_non ?_ | with_reducible refine c_nil ?_ | with_reducible refine c_one ?_ | with_reducible refine g_sub ?_ | with_reducible refine gs_n ?_ | with_reducible refine gs_c ?_ | with_reducible refine i_seq ?_ | with_reducible refine i_rng1 ?_ | with_reducible refine i_rng2 ?_ | with_reducible refine i_rng3 ?_ | with_reducible refine i_zip ?_ | with_reducible refine i_enm ?_ | with_reducible refine b_add ?_ | with_reducible refine b_sub ?_ | with_reducible refine c_lt ?_ | with_reducible refine c_le ?_ | with_reducible refine c_gt ?_ | with_reducible refine c_ge ?_ | with_reducible refine mk_f ?_ | with_reducible refine ref_and ?_ | with_reducible refine u_set ?_ | with_reducible refine eq_i ?_ | with_reducible refine ne_i ?_ | with_reducible refine eq_b ?_ | with_reducible refine ne_b ?_ | with_reducible refine is_b ?_ | with_reducible refine isn_b ?_ | with_reducible refine is_n ?_ | with_reducible refine isn_n ?_ | with_reducible refine e_v0 ?_ | with_reducible refine g_v0 ?_ | with_reducible refine s_u0 ?_ | with_reducible refine e_v1 ?_ | with_reducible refine g_v1 ?_ | with_reducible refine s_u1 ?_ | with_reducible refine e_v2 ?_ | with_reducible refine g_v2 ?_ | with_reducible refine s_u2 ?_ | with_reducible refine e_v3 ?_ | with_reducible refine g_v3 ?_ | with_reducible refine s_u3 ?_ | with_reducible refine e_v4 ?_ | with_reducible refine g_v4 ?_ | with_reducible refine s_u4 ?_ | with_reducible refine e_v5 ?_ | with_reducible refine g_v5 ?_ | with_reducible refine s_u5 ?_ | with_reducible refine e_v6 ?_ | with_reducible refine g_v6 ?_ | with_reducible refine s_u6 ?_ | with_reducible refine e_v7 ?_ | with_reducible refine g_v7 ?_ | with_reducible refine s_u7 ?_ | with_reducible refine e_v8 ?_ | with_reducible refine g_v8 ?_ | with_reducible refine s_u8 ?_ | with_reducible refine e_v9 ?_ | with_reducible refine g_v9 ?_ | with_reducible refine s_u9 ?_ | with_reducible refine e_v10 ?_ | with_reducible refine g_v10 ?_ | with_reducible refine s_u10 ?_ | with_reducible refine e_v11 ?_ | with_reducible refine g_v11 ?_ | with_reducible refine s_u11 ?_ | with_reducible refine e_v12 ?_ | with_reducible refine g_v12 ?_ | with_reducible refine s_u12 ?_ | with_reducible refine e_v13 ?_ | with_reducible refine g_v13 ?_ | with_reducible refine s_u13 ?_ | with_reducible refine e_v14 ?_ | with_reducible refine g_v14 ?_ | with_reducible refine s_u14 ?_ | with_reducible refine e_v15 ?_ | with_reducible refine g_v15 ?_ | with_reducible refine s_u15 ?_ | with_reducible refine e_v16 ?_ | with_reducible refine g_v16 ?_ | with_reducible refine s_u16 ?_ | with_reducible refine e_v17 ?_ | with_reducible refine g_v17 ?_ | with_reducible refine s_u17 ?_ | with_reducible refine e_v18 ?_ | with_reducible refine g_v18 ?_ | with_reducible refine s_u18 ?_ | with_reducible refine e_v19 ?_ | with_reducible refine g_v19 ?_ | with_reducible refine s_u19 ?_ | ((with_reducible refine e_lc' (ρ' := ?rr) ?hw ?_); (case hw => (dsimp only [wipeW, List.map, List.set]; exact rfl))) | ((with_reducible refine g_tup ?hl ?_); (case hl => exact rfl)) | with_reducible refine b_mod (by first | decide | omega) ?_ | ((with_reducible refine b_pow (pow_ok (by decide) (by decide) (by decide)) ?_); simp only [Int.reduceToNat, Int.reducePow]) | with_reducible refine le_and (by simp only [List.length_cons, List.length_nil]; decide) ?_ | with_reducible refine l_intB ?_ | with_reducible refine l_intI ?_ | with_reducible refine sl_f ?_ | (refine l_len (by exact rfl) (q := ?_); skip) | (refine l_list (by exact rfl) ?_; skip) | (refine ix_t (by exact rfl) ?_; skip))

/-! ### ways_from -/
abbrev mostO (t : MS) : Ob := .lst (t.most.map (optW valW))
abbrev cameO (t : MS) : Ob := .lst (t.came.map (optW halfW))
def spWays : MP.Spec := fun ws S Q _ => ∃ (n : Nat) (hx bx : W) (H : List Half) (B : List Int) (m : Nat), ws = [.int n, hx, bx] ∧ rdL S hx = some (H.map halfW) ∧ rdL S bx = some (B.map W.int) ∧ Good n H ∧ (∀ b ∈ B, InP n b) ∧ n ≤ 1000 ∧
  (waysN H m (startM n B)).chg = false ∧ Q (.tup [.lst ((waysN H m (startM n B)).most.map (optW valW)), .lst ((waysN H m (startM n B)).came.map (optW halfW))]) S
theorem rep_map {α : Type} (f : α → W) (n : Nat) (a : α) (w : W) (h : w = f a) : (List.replicate n [w]).flatten = (List.replicate n a).map f := by
  subst h
  induction n with
  | zero => rfl
  | succ n ih => rw [List.replicate_succ, List.flatten_cons, ih, List.replicate_succ, List.map_cons]; rfl
theorem gO_at {α : Type} {l : List (Option α)} {p : Int} {o : Option α} (h : l[p.toNat]? = some o) : gO l p = o := by
  unfold gO
  rw [List.getD_eq_getElem?_getD, h]; rfl
theorem opt_at {α : Type} {l : List (Option α)} {n : Nat} {p : Int} (hl : l.length = n) (hp : InP n p) : l[p.toNat]? = some (gO l p) := by
  have h0 := hp.1
  have h1 := hp.2
  have h : l[p.toNat]? = some l[p.toNat] := List.getElem?_eq_getElem (by omega)
  rw [gO_at h]
  exact h
theorem relax_len {n : Nat} {t : MS} {h : Half} (h1 : t.most.length = n ∧ t.came.length = n) : (relax t h).most.length = n ∧ (relax t h).came.length = n := by
  rcases relax_cases t h with e | ⟨v, _, _, e⟩
  · rw [e]; exact h1
  · rw [e]
    exact ⟨by show (List.set _ _ _).length = n; rw [List.length_set]; exact h1.1, by show (List.set _ _ _).length = n; rw [List.length_set]; exact h1.2⟩
theorem fold_len {n : Nat} : ∀ {hs : List Half} {t : MS}, t.most.length = n ∧ t.came.length = n → (hs.foldl relax t).most.length = n ∧ (hs.foldl relax t).came.length = n
  | [], t, h => h
  | x :: xs, t, h => by rw [List.foldl_cons]; exact fold_len (relax_len h)
theorem take_fold {α β : Type} {f : β → α → β} {xs : List α} {i : Nat} {x : α} {b : β} (h : xs[i]? = some x) : (xs.take (i + 1)).foldl f b = f ((xs.take i).foldl f b) x := by
  rw [List.take_add_one, h, List.foldl_append]; rfl
theorem isN_opt {α : Type} (f : α → W) (hf : ∀ a, isN (f a) = false) (o : Option α) : isN (optW f o) = o.isNone := by
  cases o with
  | none => rfl
  | some a => exact hf a
theorem ok_ways_from {Φ : Nat → MP.Spec} {ws : List W} {S : Sto} {Q : WK} {X X0 : XC} (h : spWays ws S Q X) : wps Φ c_ways_from (startW N_ways_from ws) S (dEnds Q X0) := by
  obtain ⟨n, hx, bx, H, B, m, rfl, hH, hB, gH, gB, hn, hm, q⟩ := h
  unfold c_ways_from
  show wps Φ _ [some (.int n), some hx, some bx, none, none, none, none, none, none] S (dEnds Q X0)
  repeat' contradiction
  refine b_rep rfl (by omega) (by simp only [List.length_cons, List.length_nil]; exact le_line (by omega)) ?_
  rw [Int.toNat_natCast, rep_map (optW valW) n none .non rfl]
  refine mk_t fun pm hpm => ?_
  repeat' contradiction
  refine b_rep rfl (by omega) (by simp only [List.length_cons, List.length_nil]; exact le_line (by omega)) ?_
  rw [Int.toNat_natCast, rep_map (optW halfW) n none .non rfl]
  refine mk_t fun pc hpc => ?_
  have hcm : pc ≠ pm := ne_new sup_same hpc
  have hpc0 : S pc = none := by rw [sup_ne hcm] at hpc; exact hpc
  repeat' contradiction
  refine ⟨_, rdi_l (rdl_new (rdl_new hB hpm) hpc), ?_⟩
  refine for_map (fun i ρ S' => ∃ r5, ρ = [some (.int n), some hx, some bx, some (.ref pm), some (.ref pc), r5, none, none, none] ∧ S' = sup (sup S pm (.lst (((B.take i).foldl (fun l p => l.set p.toNat (some (0, 0))) (List.replicate n none)).map (optW valW)))) pc (cameO (startM n B)))
    ⟨_, rfl, rfl⟩ (fun i ρ S' h => ?_) (fun i b ρ S' hb h K hK => ?_) (fun ρ S' h => ?_)
  · obtain ⟨_, rfl, rfl⟩ := h
    exact rdi_l (rdl_new (rdl_new hB hpm) (by rw [sup_ne hcm]; exact hpc0))
  · obtain ⟨r5, rfl, rfl⟩ := h
    have hb2 := gB b (List.mem_of_getElem? hb)
    have hb0 := hb2.1
    have hb1 := hb2.2
    repeat' contradiction
    refine st_map (x := some ((0, 0) : Val)) (by rw [sup_ne hcm.symm]; exact sup_same) rfl hb0 (by rw [begs_len, List.length_replicate]; exact hb1) ?_
    rw [sup_swap hcm]
    refine hK _ _ ⟨_, rfl, ?_⟩
    rw [take_fold hb]
  · obtain ⟨r5, rfl, rfl⟩ := h
    rw [List.take_length]
    repeat' contradiction
    refine s_whl (fun k ρ S' => ∃ t r5 r7 r8, ρ = [some (.int n), some hx, some bx, some (.ref pm), some (.ref pc), r5, some (.bl t.chg), r7, r8] ∧ S' = sup (sup S pm (mostO t)) pc (cameO t) ∧ (t.most.length = n ∧ t.came.length = n) ∧ waysN H k t = waysN H m (startM n B)) m
      ⟨startM n B, _, _, _, rfl, rfl, ⟨begs_len.trans List.length_replicate, List.length_replicate⟩, rfl⟩ fun k ρ S' h => ?_
    obtain ⟨t, r5, r7, r8, rfl, rfl, hl, ht⟩ := h
    repeat' contradiction
    refine ite_b (fun c => ?_) (fun c => ?_)
    · obtain ⟨k, rfl⟩ : ∃ k', k = k' + 1 := by
        cases k with
        | zero =>
          have : t = waysN H m (startM n B) := ht
          rw [this, hm] at c; cases c
        | succ k => exact ⟨k, rfl⟩
      rw [waysN, if_pos c] at ht
      repeat' contradiction
      refine ⟨_, rdi_l (rdl_new (rdl_new hH hpm) (by rw [sup_ne hcm]; exact hpc0)), ?_⟩
      refine for_map (fun i ρ S' => ∃ u r7 r8, u = (H.take i).foldl relax ⟨t.most, t.came, false⟩ ∧ ρ = [some (.int n), some hx, some bx, some (.ref pm), some (.ref pc), r5, some (.bl u.chg), r7, r8] ∧ S' = sup (sup S pm (mostO u)) pc (cameO u))
        ⟨_, _, _, rfl, rfl, rfl⟩ (fun i ρ S' h => ?_) (fun i h ρ S' hh z K hK => ?_) (fun ρ S' h => ?_)
      · obtain ⟨_, _, _, _, rfl, rfl⟩ := h
        exact rdi_l (rdl_new (rdl_new hH hpm) (by rw [sup_ne hcm]; exact hpc0))
      · obtain ⟨u, r7, r8, hu, rfl, rfl⟩ := z
        obtain ⟨ul1, ul2⟩ : u.most.length = n ∧ u.came.length = n := by rw [hu]; exact fold_len hl
        obtain ⟨ga, gb⟩ := gH h (List.mem_of_getElem? hh)
        have a0 := ga.1
        have b0 := gb.1
        have b1 := gb.2
        have ea := opt_at ul1 ga
        have eb := opt_at ul1 gb
        have hmc : ∀ {o o' : Ob}, (sup (sup S pm o) pc o') pm = some o := by intro o o'; rw [sup_ne hcm.symm]; exact sup_same
        have fin : ∀ u' r7 r8, u' = relax u h → K [some (.int n), some hx, some bx, some (.ref pm), some (.ref pc), r5, some (.bl u'.chg), r7, r8] (sup (sup S pm (mostO u')) pc (cameO u')) := fun u' r7 r8 hu' => by
          refine hK _ _ ⟨_, _, _, ?_, rfl, rfl⟩
          rw [take_fold hh, hu', hu]
        repeat' contradiction
        refine ix_mapc hmc a0 ea ?_
        repeat' contradiction
        rw [isN_opt valW (fun _ => rfl)]
        cases hv : gO u.most h.1 with
        | none =>
          refine iteF ?_
          repeat' contradiction
          refine fin u _ _ ?_
          unfold relax; rw [hv]
        | some v =>
          rw [hv] at ea
          refine iteT ?_
          repeat' contradiction
          refine ix_mapc hmc a0 ea ?_
          repeat' contradiction
          refine ix_mapc hmc a0 ea ?_
          repeat' contradiction
          refine ix_mapc hmc b0 eb ?_
          repeat' contradiction
          rw [isN_opt valW (fun _ => rfl)]
          have set2 : ∀ (w : W), w = valW (moreV v h) → (∀ r8, K [some (.int n), some hx, some bx, some (.ref pm), some (.ref pc), r5, some (.bl true), some (halfW h), r8] (sup (sup S pm (.lst ((u.most.set h.2.1.toNat (some (moreV v h))).map (optW valW)))) pc (.lst ((u.came.set h.2.1.toNat (some h)).map (optW halfW))))) → True := fun _ _ _ => trivial
          clear set2
          cases hw : gO u.most h.2.1 with
          | none =>
            refine iteT ?_
            refine iteT ?_
            repeat' contradiction
            refine st_map (x := some (moreV v h)) hmc rfl b0 (by omega) ?_
            rw [sup_swap hcm]
            repeat' contradiction
            refine st_map (x := some h) sup_same rfl b0 (by omega) ?_
            rw [sup_sup]
            repeat' contradiction
            refine fin ⟨_, _, true⟩ _ _ ?_
            unfold relax; rw [hv, hw]
          | some w =>
            rw [hw] at eb
            refine iteF ?_
            repeat' contradiction
            refine ix_mapc hmc b0 eb ?_
            refine gt_val (a := moreV v h) ?_
            refine ite_b (fun c => ?_) (fun c => ?_)
            · repeat' contradiction
              refine st_map (x := some (moreV v h)) hmc rfl b0 (by omega) ?_
              rw [sup_swap hcm]
              repeat' contradiction
              refine st_map (x := some h) sup_same rfl b0 (by omega) ?_
              rw [sup_sup]
              repeat' contradiction
              refine fin ⟨_, _, true⟩ _ _ ?_
              unfold relax; rw [hv, hw]
              show _ = if _ then _ else _
              rw [if_pos c]
            · repeat' contradiction
              refine fin u _ _ ?_
              unfold relax; rw [hv, hw]
              show _ = if _ then _ else _
              rw [if_neg (by rw [c]; decide)]
      · obtain ⟨u, r7, r8, hu, rfl, rfl⟩ := h
        rw [List.take_length] at hu
        exact ⟨k, Nat.lt_succ_self _, u, _, _, _, rfl, rfl, by rw [hu]; exact fold_len hl, by rw [hu]; exact ht⟩
    · have ht : t = waysN H m (startM n B) := by rw [← ht]; exact (waysN_done c).symm
      repeat' contradiction
      refine s_gf3 (by rw [sup_ne hcm.symm]; exact sup_same) ?_
      repeat' contradiction
      refine s_gf4 (by rw [sdel_ne hcm]; exact sup_same) ?_
      repeat' contradiction
      rw [← ht] at q
      refine d_ret (fun a o ha => ?_) q
      rw [sdel_ne (fun e => by rw [e, hpc0] at ha; cases ha), sdel_ne (fun e => by rw [e, hpm] at ha; cases ha), sup_ne (fun e => by rw [e, hpc0] at ha; cases ha), sup_ne (fun e => by rw [e, hpm] at ha; cases ha)]
      exact ha
end HRc

set_option Elab.async false
set_option linter.all false
set_option maxRecDepth 100000
set_option maxHeartbeats 4000000
/-! HRe: way_to, spares_of, led_back, walked. -/
namespace HRc
open PySem PySem.Spec PyProof.Rows L2 MP Circ
local macro_rules
  | `(tactic| contradiction) => `(tactic| first | with_reducible refine d_in ?_ | with_reducible refine s_nil ?_ | with_reducible refine s_seq ?_ | with_reducible refine s_asg ?_ | with_reducible refine s_par ?_ | with_reducible refine s_expr ?_ | with_reducible refine s_ret ?_ | with_reducible refine s_retN ?_ | with_reducible refine s_iff ?_ | with_reducible refine s_fr ?_ | with_reducible refine s_cont ?_ | with_reducible refine s_brk ?_ | with_reducible refine s_pass ?_ | with_reducible refine s_augS ?_ | with_reducible refine e_int ?_ | with_reducible refine e_str ?_ | with_reducible refine e_bool ?_ | with_reducible refine e_none ?_ | with_reducible refine e_bin ?_ | with_reducible refine e_neg ?_ | with_reducible refine e_nt ?_ | with_reducible refine e_cmp ?_ | with_reducible refine e_chain ?_ | with_reducible refine e_an ?_ | with_reducible refine e_or ?_ | with_reducible refine an_1 ?_ | with_reducible refine an_2 ?_ | with_reducible refine or_1 ?_ | with_reducible refine or_2 ?_ | with_reducible refine e_ife ?_ | with_reducible refine e_call ?_ | with_reducible refine e_blt ?_ | with_reducible refine e_mth ?_ | with_reducible refine e_idx ?_ | with_reducible refine e_slc ?_ | with_reducible refine e_rev ?_ | with_reducible refine e_tup ?_ | with_reducible refine e_lst ?_ | with_reducible refine e_dnew ?_ | with_reducible refine e_dct ?_ | with_reducible refine e_isi ?_ | with_reducible refine e_lrg ?_ | with_reducible refine es_n ?_ | with_reducible refine es_c ?_ | with_reducible refine o_nil ?_ | with_reducible refine o_var ?_ | with_reducible refine o_cst ?_ | with_reducible refine o_bin ?_ | with_reducible refine o_neg ?_ | with_reducible refine o_blt ?_ | with_reducible refine o_call ?_ | with_reducible refine ik ?_ | with_reducible refine ng ?_ | with_reducible refine tq_bl ?_ | with_reducible refine tq_int ?_ | with_reducible refine tq_non ?_ | with_reducible refine tq_lst ?_ | with_reducible refine tq_tup ?_ | with_reducible refine t_var ?_ | with_reducible refine t_call ?_ | with_reducible refine t_blt ?_ | with_reducible refine t_mth ?_ | with_reducible refine t_idx ?_ | with_reducible refine t_isi ?_ | with_reducible refine t_cst ?_ | with_reducible refine t_nt ?_ | with_reducible refine t_cmp ?_ | with_reducible refine t_chain ?_ | with_reducible refine t_an ?_ | with_reducible refine t_or ?_ | with_reducible refine ant_1 ?_ | with_reducible refine ant_2 ?_ | with_reducible refine ort_1 ?_ | with_reducible refine ort_2 ?_ | with_reducible refine tr_bl ?_ | with_reducible refine tr_int ?_ | with_reducible refine tr_lst ?_ | with_reducible refine tr_non ?_ | with_reducible refine c_nil ?_ | with_reducible refine c_one ?_ | with_reducible refine g_sub ?_ | with_reducible refine gs_n ?_ | with_reducible refine gs_c ?_ | with_reducible refine i_seq ?_ | with_reducible refine i_rng1 ?_ | with_reducible refine i_rng2 ?_ | with_reducible refine i_rng3 ?_ | with_reducible refine i_zip ?_ | with_reducible refine i_enm ?_ | with_reducible refine b_add ?_ | with_reducible refine b_sub ?_ | with_reducible refine c_lt ?_ | with_reducible refine c_le ?_ | with_reducible refine c_gt ?_ | with_reducible refine c_ge ?_ | with_reducible refine mk_f ?_ | with_reducible refine ref_and ?_ | with_reducible refine u_set ?_ | with_reducible refine eq_i ?_ | with_reducible refine ne_i ?_ | with_reducible refine eq_b ?_ | with_reducible refine ne_b ?_ | with_reducible refine is_b ?_ | with_reducible refine isn_b ?_ | with_reducible refine is_n ?_ | with_reducible refine isn_n ?_ | with_reducible refine e_v0 ?_ | with_reducible refine g_v0 ?_ | with_reducible refine s_u0 ?_ | with_reducible refine e_v1 ?_ | with_reducible refine g_v1 ?_ | with_reducible refine s_u1 ?_ | with_reducible refine e_v2 ?_ | with_reducible refine g_v2 ?_ | with_reducible refine s_u2 ?_ | with_reducible refine e_v3 ?_ | with_reducible refine g_v3 ?_ | with_reducible refine s_u3 ?_ | with_reducible refine e_v4 ?_ | with_reducible refine g_v4 ?_ | with_reducible refine s_u4 ?_ | with_reducible refine e_v5 ?_ | with_reducible refine g_v5 ?_ | with_reducible refine s_u5 ?_ | with_reducible refine e_v6 ?_ | with_reducible refine g_v6 ?_ | with_reducible refine s_u6 ?_ | with_reducible refine e_v7 ?_ | with_reducible refine g_v7 ?_ | with_reducible refine s_u7 ?_ | with_reducible refine e_v8 ?_ | with_reducible refine g_v8 ?_ | with_reducible refine s_u8 ?_ | with_reducible refine e_v9 ?_ | with_reducible refine g_v9 ?_ | with_reducible refine s_u9 ?_ | with_reducible refine e_v10 ?_ | with_reducible refine g_v10 ?_ | with_reducible refine s_u10 ?_ | with_reducible refine e_v11 ?_ | with_reducible refine g_v11 ?_ | with_reducible refine s_u11 ?_ | with_reducible refine e_v12 ?_ | with_reducible refine g_v12 ?_ | with_reducible refine s_u12 ?_ | with_reducible refine e_v13 ?_ | with_reducible refine g_v13 ?_ | with_reducible refine s_u13 ?_ | with_reducible refine e_v14 ?_ | with_reducible refine g_v14 ?_ | with_reducible refine s_u14 ?_ | with_reducible refine e_v15 ?_ | with_reducible refine g_v15 ?_ | with_reducible refine s_u15 ?_ | with_reducible refine e_v16 ?_ | with_reducible refine g_v16 ?_ | with_reducible refine s_u16 ?_ | with_reducible refine e_v17 ?_ | with_reducible refine g_v17 ?_ | with_reducible refine s_u17 ?_ | with_reducible refine e_v18 ?_ | with_reducible refine g_v18 ?_ | with_reducible refine s_u18 ?_ | with_reducible refine e_v19 ?_ | with_reducible refine g_v19 ?_ | with_reducible refine s_u19 ?_ | ((with_reducible refine e_lc' (ρ' := ?rr) ?hw ?_); (case hw => (dsimp only [wipeW, List.map, List.set]; exact rfl))) | ((with_reducible refine g_tup ?hl ?_); (case hl => exact rfl)) | with_reducible refine b_mod (by first | decide | omega) ?_ | ((with_reducible refine b_pow (pow_ok (by decide) (by decide) (by decide)) ?_); simp only [Int.reduceToNat, Int.reducePow]) | with_reducible refine le_and (by simp only [List.length_cons, List.length_nil]; decide) ?_ | with_reducible refine l_intB ?_ | with_reducible refine l_intI ?_ | with_reducible refine sl_f ?_ | (refine l_len (by exact rfl) (q := ?_); skip) | (refine l_list (by exact rfl) ?_; skip) | (refine ix_t (by exact rfl) ?_; skip))

/-! ### way_to -/
def spWayTo : MP.Spec := fun ws S Q _ => ∃ (came : List (Option Half)) (e b : Int) (way : List Half) (n : Nat), ws = [.lst (came.map (optW halfW)), .int e] ∧ came.length = n ∧ InP n e ∧ Chain came e way b ∧ (∀ h ∈ way, InP n h.1) ∧ way.length ≤ 1000 ∧ Q (.lst (way.map halfW)) S
theorem ok_way_to {Φ : Nat → MP.Spec} {ws : List W} {S : Sto} {Q : WK} {X X0 : XC} (h : spWayTo ws S Q X) : wps Φ c_way_to (startW N_way_to ws) S (dEnds Q X0) := by
  obtain ⟨came, e, b, way, n, rfl, hc, he, ch, hw, hl, q⟩ := h
  unfold c_way_to
  show wps Φ _ [some (.lst (came.map (optW halfW))), some (.int e), none, none] S (dEnds Q X0)
  repeat' contradiction
  refine mk_t fun p hp => ?_
  repeat' contradiction
  refine s_whl (fun k ρ S' => ∃ done rest a, way = done ++ rest ∧ Chain came a rest b ∧ InP n a ∧ k = rest.length ∧ ρ = [some (.lst (came.map (optW halfW))), some (.int e), some (.ref p), some (.int a)] ∧ S' = sup S p (.lst (done.map halfW))) way.length
    ⟨[], way, e, rfl, ch, he, rfl, rfl, rfl⟩ fun k ρ S' h => ?_
  obtain ⟨done, rest, a, ew, ca, ha, rfl, rfl, rfl⟩ := h
  have ea := opt_at hc ha
  repeat' contradiction
  refine ix_map ha.1 ea ?_
  repeat' contradiction
  rw [isN_opt halfW (fun _ => rfl)]
  cases ca with
  | nil hn =>
    rw [hn]
    refine iteF ?_
    repeat' contradiction
    refine s_gf2 sup_same ?_
    rw [sdel_sup hp]
    repeat' contradiction
    rw [List.append_nil] at ew
    rw [← ew]
    exact d_same q
  | @cons _ _ h rest hn cr =>
    rw [hn]
    rw [hn] at ea
    refine iteT ?_
    repeat' contradiction
    refine m_rcv rfl sup_same ?_
    repeat' contradiction
    refine ix_map ha.1 ea ?_
    repeat' contradiction
    refine m_app sup_same (lt_line ?_) ?_
    · rw [ew, List.length_append] at hl
      rw [List.length_map]; omega
    rw [sup_sup]
    repeat' contradiction
    refine ix_map ha.1 ea ?_
    repeat' contradiction
    refine ⟨rest.length, Nat.lt_succ_self _, done ++ [h], rest, h.1, by rw [ew, List.append_assoc]; rfl, cr, hw h (by rw [ew]; simp), rfl, rfl, by rw [List.map_append]; rfl⟩
/-! ### spares_of -/
def spSpares : MP.Spec := fun ws S Q _ => ∃ (n : Nat) (x : W) (fa : Addr) (arcs : List Arc) (fl : List Int), ws = [.int n, x, .ref fa] ∧ rdL S x = some (arcs.map arcW) ∧ S fa = some (iO fl) ∧ fl.length = arcs.length ∧ GoodA n arcs ∧ n ≤ 1000 ∧
  ∀ p, S p = none → Q (.ref p) (sup S p (iO (sparesM n arcs fl)))
theorem int_at {l : List Int} {n : Nat} {p : Int} (hl : l.length = n) (hp : InP n p) : l[p.toNat]? = some (gI l p) := by
  have h0 := hp.1
  have h1 := hp.2
  have h : l[p.toNat]? = some l[p.toNat] := List.getElem?_eq_getElem (by omega)
  unfold gI
  rw [List.getD_eq_getElem?_getD, h]; rfl
theorem addS_fold_len {n : Nat} : ∀ {zs : List (Arc × Int)} {l : List Int}, l.length = n → (zs.foldl addS l).length = n
  | [], l, h => h
  | z :: zs, l, h => by rw [List.foldl_cons]; exact addS_fold_len (by rw [addS_len]; exact h)
theorem ok_spares_of {Φ : Nat → MP.Spec} {ws : List W} {S : Sto} {Q : WK} {X X0 : XC} (h : spSpares ws S Q X) : wps Φ c_spares_of (startW N_spares_of ws) S (dEnds Q X0) := by
  obtain ⟨n, x, fa, arcs, fl, rfl, hx, hf, hl, g, hn, q⟩ := h
  unfold c_spares_of
  show wps Φ _ [some (.int n), some x, some (.ref fa), none, none, none, none, none, none] S (dEnds Q X0)
  repeat' contradiction
  refine b_rep rfl (by omega) (by simp only [List.length_cons, List.length_nil]; exact le_line (by omega)) ?_
  rw [Int.toNat_natCast, rep_map W.int n 0 (.int 0) rfl]
  refine mk_t fun p hp => ?_
  have hpf : p ≠ fa := ne_new hf hp
  repeat' contradiction
  refine ⟨_, _, rdl_new hx hp, by show rdL _ (.ref fa) = _; exact rdl_c (by rw [sup_ne hpf.symm]; exact hf), ?_⟩
  refine for_zip (fun i ρ S' => ∃ r4 r5 r6 r7 r8, ρ = [some (.int n), some x, some (.ref fa), some (.ref p), r4, r5, r6, r7, r8] ∧ S' = sup S p (iO (((arcs.zip fl).take i).foldl addS (List.replicate n 0))))
    ⟨_, _, _, _, _, rfl, rfl⟩ (fun i ρ S' h => ?_) (fun i a f ρ S' ha hf' h K hK => ?_) (fun ρ S' h => ?_)
  · obtain ⟨_, _, _, _, _, rfl, rfl⟩ := h
    exact ⟨rdl_new hx hp, rdl_c (by rw [sup_ne hpf.symm]; exact hf)⟩
  · obtain ⟨r4, r5, r6, r7, r8, rfl, rfl⟩ := h
    obtain ⟨g1, g2, _⟩ := g a (List.mem_of_getElem? ha)
    have hz : (arcs.zip fl)[i]? = some (a, f) := by rw [List.getElem?_zip_eq_some]; exact ⟨ha, hf'⟩
    have hlen : (((arcs.zip fl).take i).foldl addS (List.replicate n 0)).length = n := addS_fold_len List.length_replicate
    generalize hL : ((arcs.zip fl).take i).foldl addS (List.replicate n 0) = L at hlen
    have b0 := g1.1
    have b1 := g1.2
    have e0 := g2.1
    have e1 := g2.2
    repeat' contradiction
    refine ix_mapc sup_same b0 (int_at hlen g1) ?_
    repeat' contradiction
    refine st_map (x := gI L a.1 - f) sup_same rfl b0 (by omega) ?_
    rw [sup_sup]
    have hlen2 : (L.set a.1.toNat (gI L a.1 - f)).length = n := by rw [List.length_set]; exact hlen
    repeat' contradiction
    refine ix_mapc sup_same e0 (int_at hlen2 g2) ?_
    repeat' contradiction
    refine st_map (x := gI (L.set a.1.toNat (gI L a.1 - f)) a.2.1 + f) sup_same rfl e0 (by omega) ?_
    rw [sup_sup]
    refine hK _ _ ⟨_, _, _, _, _, rfl, ?_⟩
    rw [take_fold hz, hL]
    rfl
  · obtain ⟨r4, r5, r6, r7, r8, rfl, rfl⟩ := h
    repeat' contradiction
    rw [show min arcs.length fl.length = (arcs.zip fl).length by rw [List.length_zip], List.take_length]
    exact d_same (q p hp)
/-! ### led_back -/
def spLed : MP.Spec := fun ws S Q _ => ∃ (n : Nat) (x : W) (fa sa : Addr) (arcs : List Arc) (fl sp : List Int) (way : List Half), ws = [x, .ref fa, .ref sa, .lst (way.map halfW)] ∧ rdL S x = some (arcs.map arcW) ∧ x ≠ .ref fa ∧ x ≠ .ref sa ∧ fa ≠ sa ∧
  S fa = some (iO fl) ∧ S sa = some (iO sp) ∧ fl.length = arcs.length ∧ sp.length = n ∧ way ≠ [] ∧ way.length ≤ 1000 ∧ (∀ h ∈ way, HalfOf arcs h) ∧ InP n (begW way) ∧ InP n (endW way) ∧
  0 ≤ minZ (roomsM arcs fl sp way) ∧ minZ (roomsM arcs fl sp way) ≤ 10 ^ 40 ∧ Q .non (sup (sup S fa (iO (ledM arcs (fl, sp) way).1)) sa (iO (ledM arcs (fl, sp) way).2))
theorem l_minZ {ns : List Int} {x : W} {S : Sto} {Q : WK} {live : Bool} (h : rdL S x = some (ns.map W.int)) (hn : ns ≠ []) (q : Q (.int (minZ ns)) S) : bltW live .minL [x] S Q :=
  l_minL h (List.length_pos_iff.mpr hn) fun m h1 h2 => by rw [minZ_eq h1 h2]; exact q
theorem ok_led_back {Φ : Nat → MP.Spec} {ws : List W} {S : Sto} {Q : WK} {X X0 : XC} (h : spLed ws S Q X) : wps Φ c_led_back (startW N_led_back ws) S (dEnds Q X0) := by
  obtain ⟨n, x, fa, sa, arcs, fl, sp, way, rfl, hx, hxf, hxs, hfs, hf, hs, hfl, hsl, hne, hwl, hon, hb, he, d0, d1, q⟩ := h
  unfold c_led_back
  show wps Φ _ [some x, some (.ref fa), some (.ref sa), some (.lst (way.map halfW)), none, none, none, none] S (dEnds Q X0)
  have eb : atI (way.map halfW) (-1) = some (halfW (way.getLastD half0)) := by
    unfold atI ixN
    rw [if_neg (by decide), if_pos (by rw [List.length_map]; have := List.length_pos_iff.mpr hne; omega)]
    show (way.map halfW)[_]? = _
    rw [List.getElem?_map, List.length_map, List.getLastD_eq_getLast?, List.getLast?_eq_getElem?]
    have : (-1 + (way.length : Int)).toNat = way.length - 1 := by have := List.length_pos_iff.mpr hne; omega
    rw [this]
    have hlt : way.length - 1 < way.length := by have := List.length_pos_iff.mpr hne; omega
    rw [List.getElem?_eq_getElem hlt]; rfl
  have ee : atI (way.map halfW) 0 = some (halfW (way.headD half0)) := by
    cases way with
    | nil => exact absurd rfl hne
    | cons h hs => exact atI_int (by decide) rfl
  repeat' contradiction
  refine ix_l eb ?_
  repeat' contradiction
  refine ix_l ee ?_
  repeat' contradiction
  refine ⟨rfl, ?_⟩
  show wps Φ _ [some x, some (.ref fa), some (.ref sa), some (.lst (way.map halfW)), none, none, some (.int (begW way)), some (.int (endW way))] S _
  repeat' contradiction
  refine ix_mapc hs hb.1 (int_at hsl hb) ?_
  repeat' contradiction
  refine ix_mapc hs he.1 (int_at hsl he) ?_
  repeat' contradiction
  refine mk_t fun p hp => ?_
  have hpf : p ≠ fa := ne_new hf hp
  have hps : p ≠ sa := ne_new hs hp
  have half : ∀ {i : Nat} {h : Half}, way[i]? = some h → ∃ (j : Nat) (y : Arc), arcs[j]? = some y ∧ h.2.2.2.1 = (j : Int) ∧ j < fl.length ∧ roomH arcs fl h = (if h.2.2.2.2 = 1 then y.2.2.1 - gI fl h.2.2.2.1 else gI fl h.2.2.2.1) ∧ (h.2.2.2.2 = 1 ∨ h.2.2.2.2 = -1) := fun {i h} hi => by
    obtain ⟨j, y, e1, e2, e3⟩ := hon h (List.mem_of_getElem? hi)
    refine ⟨j, y, e1, e2, by rw [hfl]; exact (List.getElem?_eq_some_iff.mp e1).1, ?_, ?_⟩
    · unfold roomH
      rw [e2, Int.toNat_natCast, getD_of e1]
    · rcases e3 with ⟨_, _, _, r⟩ | ⟨_, _, _, r⟩
      · exact .inl r
      · exact .inr r
  repeat' contradiction
  refine ⟨_, rfl, ?_⟩
  refine for_map (fun i ρ S' => ∃ r5, ρ = [some x, some (.ref fa), some (.ref sa), some (.lst (way.map halfW)), some (.ref p), r5, some (.int (begW way)), some (.int (endW way))] ∧ S' = sup S p (iO (gI sp (begW way) :: (0 - gI sp (endW way)) :: (way.take i).map (roomH arcs fl))))
    ⟨_, rfl, rfl⟩ (fun i ρ S' h => rfl) (fun i h ρ S' hi z K hK => ?_) (fun ρ S' h => ?_)
  · obtain ⟨r5, rfl, rfl⟩ := z
    obtain ⟨j, y, e1, e2, ej, er, _⟩ := half hi
    have hlen : ((gI sp (begW way) :: (0 - gI sp (endW way)) :: (way.take i).map (roomH arcs fl)).map W.int).length ≤ 2000 := by
      simp only [List.length_map, List.length_cons, List.length_take]; omega
    have fin : ∀ w, w = W.int (roomH arcs fl h) → ∀ r5, K [some x, some (.ref fa), some (.ref sa), some (.lst (way.map halfW)), some (.ref p), r5, some (.int (begW way)), some (.int (endW way))] (sup S p (.lst ((gI sp (begW way) :: (0 - gI sp (endW way)) :: (way.take i).map (roomH arcs fl)).map W.int ++ [w]))) := fun w hw r5 => by
      refine hK _ _ ⟨_, rfl, ?_⟩
      rw [List.take_add_one, hi, hw]
      unfold iO
      simp
    repeat' contradiction
    refine m_rcv rfl sup_same ?_
    repeat' contradiction
    have hfa : (sup S p (iO (gI sp (begW way) :: (0 - gI sp (endW way)) :: (way.take i).map (roomH arcs fl)))) fa = some (iO fl) := by rw [sup_ne hpf.symm]; exact hf
    refine ite_d (fun c => ?_) (fun c => ?_)
    · repeat' contradiction
      refine ix_rm (rdl_new hx hp) (by omega) (by rw [e2, Int.toNat_natCast]; exact e1) ?_
      repeat' contradiction
      refine ix_mapc hfa (by omega) (int_at rfl ⟨by omega, by omega⟩) ?_
      repeat' contradiction
      refine m_app sup_same (lt_line (by omega)) ?_
      rw [sup_sup]
      exact fin _ (by rw [er, if_pos c]) _
    · repeat' contradiction
      refine ix_mapc hfa (by omega) (int_at rfl ⟨by omega, by omega⟩) ?_
      repeat' contradiction
      refine m_app sup_same (lt_line (by omega)) ?_
      rw [sup_sup]
      exact fin _ (by rw [er, if_neg c]) _
  · obtain ⟨r5, rfl, rfl⟩ := h
    rw [List.take_length]
    have er : (gI sp (begW way) :: (0 - gI sp (endW way)) :: way.map (roomH arcs fl)) = roomsM arcs fl sp way := rfl
    rw [er]
    have hrn : roomsM arcs fl sp way ≠ [] := by rw [← er]; simp
    have hd : (ledM arcs (fl, sp) way) = (way.foldl (sendM (minZ (roomsM arcs fl sp way))) fl, ledS sp (begW way) (endW way) (minZ (roomsM arcs fl sp way))) := rfl
    rw [hd] at q
    generalize hdd : minZ (roomsM arcs fl sp way) = d at *
    repeat' contradiction
    refine ⟨_, rfl, ?_⟩
    refine for_map (fun i ρ S' => ∃ r5, ρ = [some x, some (.ref fa), some (.ref sa), some (.lst (way.map halfW)), some (.ref p), r5, some (.int (begW way)), some (.int (endW way))] ∧ S' = sup (sup S p (iO (roomsM arcs fl sp way))) fa (iO ((way.take i).foldl (sendM d) fl)))
      ⟨_, rfl, ?_⟩ (fun i ρ S' h => rfl) (fun i h ρ S' hi z K hK => ?_) (fun ρ S' h => ?_)
    · exact (sup_id (by rw [sup_ne hpf.symm]; exact hf)).symm
    · obtain ⟨r5, rfl, rfl⟩ := z
      obtain ⟨j, y, e1, e2, ej, er2, es⟩ := half hi
      have hL : ((way.take i).foldl (sendM d) fl).length = fl.length := send_len
      generalize hL2 : (way.take i).foldl (sendM d) fl = L at hL
      have hp2 : (sup (sup S p (iO (roomsM arcs fl sp way))) fa (iO L)) p = some (iO (roomsM arcs fl sp way)) := by rw [sup_ne hpf]; exact sup_same
      repeat' contradiction
      refine ix_mapc sup_same (by omega) (int_at rfl ⟨by omega, by omega⟩) ?_
      repeat' contradiction
      refine l_minZ (rdl_c hp2) hrn ?_
      rw [hdd]
      refine b_mul (mul_ok (by omega) (by omega)) ?_
      repeat' contradiction
      refine st_map (x := gI L h.2.2.2.1 + h.2.2.2.2 * d) sup_same rfl (by omega) (by omega) ?_
      rw [sup_sup]
      refine hK _ _ ⟨_, rfl, ?_⟩
      rw [take_fold hi, hL2]
      rfl
    · obtain ⟨r5, rfl, rfl⟩ := h
      rw [List.take_length]
      generalize way.foldl (sendM d) fl = L at *
      have hsa : ∀ {o}, (sup (sup S p (iO (roomsM arcs fl sp way))) fa o) sa = some (iO sp) := by intro o; rw [sup_ne hfs.symm, sup_ne hps.symm]; exact hs
      have hp2 : ∀ {o}, (sup (sup S p (iO (roomsM arcs fl sp way))) fa o) p = some (iO (roomsM arcs fl sp way)) := by intro o; rw [sup_ne hpf]; exact sup_same
      have b0 := hb.1
      have b1 := hb.2
      have e0 := he.1
      have e1 := he.2
      repeat' contradiction
      refine ix_mapc hsa b0 (int_at hsl hb) ?_
      repeat' contradiction
      refine l_minZ (rdl_c hp2) hrn ?_
      rw [hdd]
      repeat' contradiction
      refine st_map (x := gI sp (begW way) - d) hsa rfl b0 (by omega) ?_
      repeat' contradiction
      refine ix_mapc sup_same e0 (int_at (by rw [List.length_set]; exact hsl) he) ?_
      repeat' contradiction
      refine l_minZ (rdl_c (by rw [sup_ne hps]; exact hp2)) hrn ?_
      rw [hdd]
      repeat' contradiction
      refine st_map (x := gI (sp.set (begW way).toNat (gI sp (begW way) - d)) (endW way) + d) sup_same rfl e0 (by rw [List.length_set]; omega) ?_
      rw [sup_sup]
      repeat' contradiction
      refine d_nx (fun a o ha => ?_) q
      by_cases c1 : a = sa
      · subst c1
        rw [sup_same] at ha ⊢
        exact ha
      · rw [sup_ne c1] at ha ⊢
        by_cases c2 : a = fa
        · subst c2
          rw [sup_same] at ha ⊢
          exact ha
        · rw [sup_ne c2] at ha ⊢
          rw [sup_ne (fun e => by rw [e, hp] at ha; cases ha)]
          exact ha
end HRc

set_option Elab.async false
set_option linter.all false
set_option maxRecDepth 100000
set_option maxHeartbeats 4000000
/-! HRf: circulation, walked. -/
namespace HRc
open PySem PySem.Spec PyProof.Rows L2 MP Circ
local macro_rules
  | `(tactic| contradiction) => `(tactic| first | with_reducible refine d_in ?_ | with_reducible refine s_nil ?_ | with_reducible refine s_seq ?_ | with_reducible refine s_asg ?_ | with_reducible refine s_par ?_ | with_reducible refine s_expr ?_ | with_reducible refine s_ret ?_ | with_reducible refine s_retN ?_ | with_reducible refine s_iff ?_ | with_reducible refine s_fr ?_ | with_reducible refine s_cont ?_ | with_reducible refine s_brk ?_ | with_reducible refine s_pass ?_ | with_reducible refine s_augS ?_ | with_reducible refine e_int ?_ | with_reducible refine e_str ?_ | with_reducible refine e_bool ?_ | with_reducible refine e_none ?_ | with_reducible refine e_bin ?_ | with_reducible refine e_neg ?_ | with_reducible refine e_nt ?_ | with_reducible refine e_cmp ?_ | with_reducible refine e_chain ?_ | with_reducible refine e_an ?_ | with_reducible refine e_or ?_ | with_reducible refine an_1 ?_ | with_reducible refine an_2 ?_ | with_reducible refine or_1 ?_ | with_reducible refine or_2 ?_ | with_reducible refine e_ife ?_ | with_reducible refine e_call ?_ | with_reducible refine e_blt ?_ | with_reducible refine e_mth ?_ | with_reducible refine e_idx ?_ | with_reducible refine e_slc ?_ | with_reducible refine e_rev ?_ | with_reducible refine e_tup ?_ | with_reducible refine e_lst ?_ | with_reducible refine e_dnew ?_ | with_reducible refine e_dct ?_ | with_reducible refine e_isi ?_ | with_reducible refine e_lrg ?_ | with_reducible refine es_n ?_ | with_reducible refine es_c ?_ | with_reducible refine o_nil ?_ | with_reducible refine o_var ?_ | with_reducible refine o_cst ?_ | with_reducible refine o_bin ?_ | with_reducible refine o_neg ?_ | with_reducible refine o_blt ?_ | with_reducible refine o_call ?_ | with_reducible refine ik ?_ | with_reducible refine ng ?_ | with_reducible refine tq_bl ?_ | with_reducible refine tq_int ?_ | with_reducible refine tq_non ?_ | with_reducible refine tq_lst ?_ | with_reducible refine tq_tup ?_ | with_reducible refine t_var ?_ | with_reducible refine t_call ?_ | with_reducible refine t_blt ?_ | with_reducible refine t_mth ?_ | with_reducible refine t_idx ?_ | with_reducible refine t_isi ?_ | with_reducible refine t_cst ?_ | with_reducible refine t_nt ?_ | with_reducible refine t_cmp ?_ | with_reducible refine t_chain ?_ | with_reducible refine t_an ?_ | with_reducible refine t_or ?_ | with_reducible refine ant_1 ?_ | with_reducible refine ant_2 ?_ | with_reducible refine ort_1 ?_ | with_reducible refine ort_2 ?_ | with_reducible refine tr_bl ?_ | with_reducible refine tr_int ?_ | with_reducible refine tr_lst ?_ | with_reducible refine tr_non ?_ | with_reducible refine c_nil ?_ | with_reducible refine c_one ?_ | with_reducible refine g_sub ?_ | with_reducible refine gs_n ?_ | with_reducible refine gs_c ?_ | with_reducible refine i_seq ?_ | with_reducible refine i_rng1 ?_ | with_reducible refine i_rng2 ?_ | with_reducible refine i_rng3 ?_ | with_reducible refine i_zip ?_ | with_reducible refine i_enm ?_ | with_reducible refine b_add ?_ | with_reducible refine b_sub ?_ | with_reducible refine c_lt ?_ | with_reducible refine c_le ?_ | with_reducible refine c_gt ?_ | with_reducible refine c_ge ?_ | with_reducible refine mk_f ?_ | with_reducible refine ref_and ?_ | with_reducible refine u_set ?_ | with_reducible refine eq_i ?_ | with_reducible refine ne_i ?_ | with_reducible refine eq_b ?_ | with_reducible refine ne_b ?_ | with_reducible refine is_b ?_ | with_reducible refine isn_b ?_ | with_reducible refine is_n ?_ | with_reducible refine isn_n ?_ | with_reducible refine e_v0 ?_ | with_reducible refine g_v0 ?_ | with_reducible refine s_u0 ?_ | with_reducible refine e_v1 ?_ | with_reducible refine g_v1 ?_ | with_reducible refine s_u1 ?_ | with_reducible refine e_v2 ?_ | with_reducible refine g_v2 ?_ | with_reducible refine s_u2 ?_ | with_reducible refine e_v3 ?_ | with_reducible refine g_v3 ?_ | with_reducible refine s_u3 ?_ | with_reducible refine e_v4 ?_ | with_reducible refine g_v4 ?_ | with_reducible refine s_u4 ?_ | with_reducible refine e_v5 ?_ | with_reducible refine g_v5 ?_ | with_reducible refine s_u5 ?_ | with_reducible refine e_v6 ?_ | with_reducible refine g_v6 ?_ | with_reducible refine s_u6 ?_ | with_reducible refine e_v7 ?_ | with_reducible refine g_v7 ?_ | with_reducible refine s_u7 ?_ | with_reducible refine e_v8 ?_ | with_reducible refine g_v8 ?_ | with_reducible refine s_u8 ?_ | with_reducible refine e_v9 ?_ | with_reducible refine g_v9 ?_ | with_reducible refine s_u9 ?_ | with_reducible refine e_v10 ?_ | with_reducible refine g_v10 ?_ | with_reducible refine s_u10 ?_ | with_reducible refine e_v11 ?_ | with_reducible refine g_v11 ?_ | with_reducible refine s_u11 ?_ | with_reducible refine e_v12 ?_ | with_reducible refine g_v12 ?_ | with_reducible refine s_u12 ?_ | with_reducible refine e_v13 ?_ | with_reducible refine g_v13 ?_ | with_reducible refine s_u13 ?_ | with_reducible refine e_v14 ?_ | with_reducible refine g_v14 ?_ | with_reducible refine s_u14 ?_ | with_reducible refine e_v15 ?_ | with_reducible refine g_v15 ?_ | with_reducible refine s_u15 ?_ | with_reducible refine e_v16 ?_ | with_reducible refine g_v16 ?_ | with_reducible refine s_u16 ?_ | with_reducible refine e_v17 ?_ | with_reducible refine g_v17 ?_ | with_reducible refine s_u17 ?_ | with_reducible refine e_v18 ?_ | with_reducible refine g_v18 ?_ | with_reducible refine s_u18 ?_ | with_reducible refine e_v19 ?_ | with_reducible refine g_v19 ?_ | with_reducible refine s_u19 ?_ | ((with_reducible refine e_lc' (ρ' := ?rr) ?hw ?_); (case hw => (dsimp only [wipeW, List.map, List.set]; exact rfl))) | ((with_reducible refine g_tup ?hl ?_); (case hl => exact rfl)) | with_reducible refine b_mod (by first | decide | omega) ?_ | ((with_reducible refine b_pow (pow_ok (by decide) (by decide) (by decide)) ?_); simp only [Int.reduceToNat, Int.reducePow]) | with_reducible refine le_and (by simp only [List.length_cons, List.length_nil]; decide) ?_ | with_reducible refine l_intB ?_ | with_reducible refine l_intI ?_ | with_reducible refine sl_f ?_ | (refine l_len (by exact rfl) (q := ?_); skip) | (refine l_list (by exact rfl) ?_; skip) | (refine ix_t (by exact rfl) ?_; skip))

theorem nodup_le : ∀ (n : Nat) (l : List Nat), l.Pairwise (· ≠ ·) → (∀ x ∈ l, x < n) → l.length ≤ n
  | 0, l, _, h => by
    cases l with
    | nil => exact Nat.le_refl _
    | cons x xs => exact absurd (h x (by simp)) (Nat.not_lt_zero _)
  | n + 1, l, hp, h => by
    have hn : l.Nodup := hp
    have h1 : (l.erase n).length ≤ n := nodup_le n (l.erase n) (hn.erase n) fun x hx => by
      rw [hn.mem_erase_iff] at hx
      have := h x hx.2
      have := hx.1
      omega
    have h2 := List.length_erase (a := n) (l := l)
    split at h2 <;> omega
theorem way_le {arcs : List Arc} {way : List Half} (hd : way.Pairwise fun a b => a.2.2.2.1 ≠ b.2.2.2.1) (ho : ∀ h ∈ way, HalfOf arcs h) : way.length ≤ arcs.length := by
  have := nodup_le arcs.length (way.map fun h => h.2.2.2.1.toNat) (by
    rw [List.pairwise_map]
    refine List.Pairwise.imp_of_mem ?_ hd
    intro a b ha hb hne h
    obtain ⟨j, _, _, e1, _⟩ := ho a ha
    obtain ⟨k, _, _, e2, _⟩ := ho b hb
    rw [e1, e2] at h hne
    omega) fun x hx => by
    obtain ⟨h, hh, rfl⟩ := List.mem_map.mp hx
    obtain ⟨j, y, e0, e1, _⟩ := ho h hh
    rw [e1, Int.toNat_natCast]
    exact (List.getElem?_eq_some_iff.mp e0).1
  rwa [List.length_map] at this
theorem rng0 (n : Nat) : rngW 0 n = (List.range n).map fun (i : Nat) => W.int (i : Int) := by
  rw [rng_map]
  refine List.map_congr_left fun i _ => ?_
  rw [Int.zero_add]
theorem rngW_Z (n : Nat) : rngW 0 n = (rngZ n).map W.int := by
  rw [rng0]; unfold rngZ; rw [List.map_map]; rfl
def RoomOK (arcs : List Arc) : Prop := ∀ x ∈ arcs, x.2.2.1 ≤ 10 ^ 31
def spCirc : MP.Spec := fun ws S Q _ => ∃ (n : Nat) (x : W) (arcs : List Arc), ws = [.int n, x] ∧ rdL S x = some (arcs.map arcW) ∧ GoodA n arcs ∧ RoomOK arcs ∧ 0 < n ∧ n ≤ 900 ∧ arcs.length ≤ 900 ∧
  ∀ pf pp, S pf = none → pp ≠ pf → S pp = none → Q (.tup [.ref pf, .ref pp]) (sup (sup S pf (iO (circM n arcs).1)) pp (iO (circM n arcs).2))
theorem ne_nil {α : Type} {f : α → W} {xs : List α} {S : Sto} {Q : Bool → Prop} (hf : ∀ x ∈ xs, Pln 5 (f x)) (q : Q (!xs.isEmpty)) : cmpW .NotEq (.lst (xs.map f)) (.lst []) S Q :=
  ne_p (pln_map hf) (.lst 0 [] fun _ h => by cases h) fun b hb => by
    have : b = !xs.isEmpty := by
      rw [Bool.eq_iff_iff, hb]
      cases xs <;> simp
    rw [this]; exact q
theorem lc_begs {Φ : Nat → MP.Spec} {n : Nat} {sp : List Int} {S : Sto} {ρ : MP.Env} {Q : List W → Sto → Prop} {src : Sto → Prop} {g : W → MP.Env → Sto → (MP.Env → Sto → Prop) → Prop} {t : MP.Env → Sto → (Bool → Sto → Prop) → Prop} {e : WE} (hs : src S) (hn : n ≤ 1000)
    (step : ∀ i, i < n → ∀ (K : WK) (K2 : Sto → Prop), (0 < gI sp (i : Nat) → K (.int (i : Nat)) S) → (¬ 0 < gI sp (i : Nat) → K2 S) → g (.int (i : Nat)) ρ S fun ρ1 S1 => t ρ1 S1 fun b S2 => if b = true then e ρ1 S2 K XN else K2 S2)
    (q : Q ((begsM n sp).map W.int) S) : wpLc src g t (fun ρ1 S2 Q1 => e ρ1 S2 Q1 XN) ρ (rngW 0 n) [] S Q := by
  rw [rng0]
  refine lc_fm (fun (i : Nat) => decide (gI sp (i : Nat) > 0)) (fun (i : Nat) => W.int (i : Int)) hs (by rw [List.length_range]; exact le_line (by omega)) (fun i hi K K2 h1 h2 => ?_) ?_
  · exact step i (List.mem_range.mp hi) K K2 (fun h => h1 (decide_eq_true h)) (fun h => h2 (decide_eq_false h))
  · unfold begsM at q
    rw [List.map_map] at q
    exact q
theorem flow0_map {arcs : List Arc} : (arcs.map fun a => W.int (flow0 a)) = (arcs.map flow0).map W.int := by rw [List.map_map]; rfl
section
variable {Φ : Nat → MP.Spec} {i_spares_of i_ways_from i_led_back i_halves_of i_way_to : Nat}
theorem ok_circulation (h1 : Φ i_spares_of = spSpares) (h2 : Φ i_ways_from = spWays) (h3 : Φ i_led_back = spLed) (h4 : Φ i_halves_of = spHalves) (h5 : Φ i_way_to = spWayTo)
    {ws : List W} {S : Sto} {Q : WK} {X X0 : XC} (h : spCirc ws S Q X) : wps Φ (c_circulation i_spares_of i_ways_from i_led_back i_halves_of i_way_to) (startW N_circulation ws) S (dEnds Q X0) := by
  obtain ⟨n, x, arcs, rfl, hx, g, hro, hn0, hn, hal, q⟩ := h
  unfold c_circulation
  show wps Φ _ [some (.int n), some x, none, none, none, none, none, none, none, none, none] S (dEnds Q X0)
  repeat' contradiction
  refine ⟨_, rdi_l hx, ?_⟩
  refine lc_mp (fun a => W.int (flow0 a)) (rdi_l hx) (le_line (by omega)) (fun a ha K hK => ?_) ?_
  · repeat' contradiction
    unfold flow0 at hK
    refine ite_d (fun c => ?_) (fun c => ?_)
    · repeat' contradiction
      rw [if_pos c] at hK; exact hK
    · repeat' contradiction
      rw [if_neg c] at hK; exact hK
  rw [flow0_map]
  refine mk_t fun pf hpf => ?_
  repeat' contradiction
  rw [h1]
  refine ⟨n, x, pf, arcs, arcs.map flow0, rfl, rdl_new hx hpf, sup_same, List.length_map _, g, by omega, fun ps hps => ?_⟩
  have hsf : ps ≠ pf := ne_new sup_same hps
  have hps0 : S ps = none := by rw [sup_ne hsf] at hps; exact hps
  have hps1 : ∀ {o}, sup S pf o ps = none := by intro o; rw [sup_ne hsf]; exact hps0
  have hxx : ∀ {o o' : Ob}, rdL (sup (sup S pf o) ps o') x = some (arcs.map arcW) := rdl_new (rdl_new hx hpf) hps1
  have hff : ∀ {o o' : Ob}, (sup (sup S pf o) ps o') pf = some o := by intro o o'; rw [sup_ne hsf.symm]; exact sup_same
  repeat' contradiction
  refine rg1 (by omega) ?_
  rw [Int.toNat_natCast]
  refine lc_begs (Φ := Φ) (sp := sparesM n arcs (arcs.map flow0)) trivial (by omega) (fun i hi K K2 k1 k2 => ?_) ?_
  · repeat' contradiction
    refine ix_mapc sup_same (by omega) (int_at (spares_len g (List.length_map _) hn0) ⟨by omega, by omega⟩) ?_
    repeat' contradiction
    refine ite_d (fun c => ?_) (fun c => ?_)
    · repeat' contradiction
      exact k1 c
    · exact k2 c
  repeat' contradiction
  refine s_whl (fun k ρ S' => ∃ s r5 r6 r7, CI n arcs s ∧ circF n arcs s = circF n arcs (start0 n arcs) ∧ k = tot n s ∧
      ρ = [some (.int n), some x, some (.ref pf), some (.ref ps), some (.lst ((begsM n s.2).map W.int)), r5, r6, r7, none, none, none] ∧ S' = sup (sup S pf (iO s.1)) ps (iO s.2)) (tot n (start0 n arcs))
    ⟨start0 n arcs, _, _, _, CI.start g hn0, rfl, rfl, rfl, rfl⟩ fun k ρ S' h => ?_
  obtain ⟨s, r5, r6, r7, c, hF, rfl, rfl, rfl⟩ := h
  repeat' contradiction
  refine ne_nil (fun _ _ => .int 5 _) ?_
  refine ite_b (fun e => ?_) (fun e => ?_)
  · have hb : begsM n s.2 ≠ [] := by
      intro z
      rw [z] at e; cases e
    obtain ⟨m, M, π, b, hπ, w1, w2, w3, w4, F⟩ := c.stepF g hb
    obtain ⟨c2, t2⟩ := c.next g hb
    have hF2 := circF_step g c hb
    have hstep : stepM n arcs s = ledM arcs s (wayF (waysC n arcs s).came (endM (endsM n s.2 (waysC n arcs s).most))) := rfl
    repeat' contradiction
    rw [h4]
    refine ⟨x, pf, arcs, s.1, rfl, hxx, hff, c.fl, by omega, ?_⟩
    repeat' contradiction
    rw [h2]
    refine ⟨n, _, _, halvesM arcs s.1 0, begsM n s.2, m, rfl, rfl, rfl, good_halves g s.1, fun b hb => (begs_mem.mp hb).1, by omega, w1, ?_⟩
    rw [← w2]
    generalize waysC n arcs s = t at *
    repeat' contradiction
    refine rg1 (by omega) ?_
    rw [Int.toNat_natCast, rng0]
    refine lc_fm (fun (i : Nat) => decide (gI s.2 (i : Nat) < 0) && (gO t.most (i : Nat)).isSome) (fun (i : Nat) => W.tup [optW valW (gO t.most (i : Nat)), .int (0 - (i : Int))]) trivial (by rw [List.length_range]; exact le_line (by omega)) (fun i hi K K2 k1 k2 => ?_) ?_
    · have hi := List.mem_range.mp hi
      have em := opt_at F.ml (p := (i : Int)) ⟨by omega, by omega⟩
      repeat' contradiction
      refine ix_mapc sup_same (by omega) (int_at c.sl ⟨by omega, by omega⟩) ?_
      repeat' contradiction
      refine ite_d (fun d => ?_) (fun d => ?_)
      · repeat' contradiction
        refine ix_map (by omega) em ?_
        repeat' contradiction
        rw [isN_opt valW (fun _ => rfl)]
        cases ho : gO t.most (i : Nat) with
        | none =>
          refine iteF ?_
          exact k2 (by rw [ho]; simp)
        | some v =>
          refine iteT ?_
          repeat' contradiction
          refine ix_map (by omega) em ?_
          repeat' contradiction
          exact k1 (by rw [ho, decide_eq_true d]; rfl)
      · refine iteF ?_
        exact k2 (by rw [decide_eq_false d]; rfl)
    have hends : ((List.range n).filter fun (i : Nat) => decide (gI s.2 (i : Nat) < 0) && (gO t.most (i : Nat)).isSome).map (fun (i : Nat) => W.tup [optW valW (gO t.most (i : Nat)), .int (0 - (i : Int))]) = (endsM n s.2 t.most).map endsW := by
      unfold endsM
      rw [List.map_map]
      refine List.map_congr_left fun i hi => ?_
      rw [List.mem_filter, Bool.and_eq_true] at hi
      obtain ⟨v, hv⟩ := Option.isSome_iff_exists.mp hi.2.2
      show _ = endsW ((gO t.most (i : Nat)).getD (0, 0), 0 - (i : Int))
      rw [hv]; rfl
    rw [hends]
    have hee := F.ends
    have heq := F.eq
    generalize hway : wayF t.came (endM (endsM n s.2 t.most)) = way at *
    cases hes : endsM n s.2 t.most with
    | nil => exact absurd hes hee
    | cons e0 es =>
      have he0 : endM (endsM n s.2 t.most) = 0 - (maxE e0 es).2 := by rw [hes]; rfl
      repeat' contradiction
      refine max_ends ?_
      repeat' contradiction
      rw [h5]
      have hwl := way_le F.dist F.on
      refine ⟨t.came, _, b, way, n, rfl, F.cl, ?_, ?_, fun h hh => (F.inp h hh).1, by omega, ?_⟩
      · rw [← he0]; exact F.ee
      · rw [← he0]; exact F.chain
      repeat' contradiction
      rw [h3]
      have hd := minZ_mem (xs := roomsM arcs s.1 s.2 way) (by unfold roomsM; simp)
      have hdb : 0 ≤ minZ (roomsM arcs s.1 s.2 way) ∧ minZ (roomsM arcs s.1 s.2 way) ≤ 10 ^ 40 := by
        constructor
        · have hr : roomsM arcs s.1 s.2 way = gI s.2 b :: (0 - gI s.2 (endM (endsM n s.2 t.most))) :: way.map (roomH arcs s.1) := by unfold roomsM; rw [F.bw, F.ew]
          rw [hr] at hd ⊢
          rcases List.mem_cons.mp hd with h | h
          · rw [h]; have := F.bs; omega
          · rcases List.mem_cons.mp h with h | h
            · rw [h]; have := F.es; omega
            · obtain ⟨k, hk, hk2⟩ := List.mem_map.mp h
              rw [← hk2]
              have := (F.room k hk).1
              omega
        · obtain ⟨k, ks, hks⟩ : ∃ k ks, way = k :: ks := by
            cases hw : way with
            | nil => exact absurd hw F.ne
            | cons k ks => exact ⟨k, ks, rfl⟩
          have hk : k ∈ way := by rw [hks]; simp
          have h1 : minZ (roomsM arcs s.1 s.2 way) ≤ roomH arcs s.1 k := minZ_le (by unfold roomsM; simp only [List.mem_cons, List.mem_map]; exact .inr (.inr ⟨k, hk, rfl⟩))
          obtain ⟨j, y, y1, y2, _⟩ := F.on k hk
          have h2 := (F.room k hk).2 j y y1 y2
          have h3 := hro y (List.mem_of_getElem? y1)
          omega
      refine ⟨n, x, pf, ps, arcs, s.1, s.2, way, rfl, hxx, fun e => ?_, fun e => ?_, hsf.symm, hff, sup_same, c.fl, c.sl, F.ne, by omega, F.on, by rw [F.bw]; exact F.be, by rw [F.ew]; exact F.ee, hdb.1, hdb.2, ?_⟩
      · exact ref_ne_new hx hpf e
      · exact ref_ne_new hx hps0 e
      rw [sup_swap hsf, sup_sup]
      repeat' contradiction
      refine rg1 (by omega) ?_
      rw [Int.toNat_natCast]
      have hst : ledM arcs (s.1, s.2) way = stepM n arcs s := by rw [hstep]
      rw [hst]
      refine lc_begs (Φ := Φ) (sp := (stepM n arcs s).2) trivial (by omega) (fun i hi K K2 k1 k2 => ?_) ?_
      · repeat' contradiction
        refine ix_mapc sup_same (by omega) (int_at c2.sl ⟨by omega, by omega⟩) ?_
        repeat' contradiction
        refine ite_d (fun c => ?_) (fun c => ?_)
        · repeat' contradiction
          exact k1 c
        · exact k2 c
      repeat' contradiction
      exact ⟨tot n (stepM n arcs s), t2, _, _, _, _, c2, by rw [hF2]; exact hF, rfl, rfl, rfl⟩
  · have hb : begsM n s.2 = [] := by
      cases hb : begsM n s.2 with
      | nil => rfl
      | cons b bs => rw [hb] at e; cases e
    have hs : circF n arcs (start0 n arcs) = s := by rw [← hF]; exact circF_stop hb
    obtain ⟨m, M, π, hπ, w1, w2, w3, w4⟩ := waysE_ok g c.pt
    repeat' contradiction
    rw [h4]
    refine ⟨x, pf, arcs, s.1, rfl, hxx, hff, c.fl, by omega, ?_⟩
    repeat' contradiction
    refine ⟨by omega, by omega, mk_f ?_⟩
    rw [Int.toNat_natCast, rngW_Z]
    repeat' contradiction
    rw [h2]
    refine ⟨n, _, _, halvesM arcs s.1 0, rngZ n, m, rfl, rfl, rfl, good_halves g s.1, fun b hb => rng_mem.mp hb, by omega, w1, ?_⟩
    rw [← w2]
    have hq : (circM n arcs) = (s.1, pricesM n arcs s.1) := by unfold circM; rw [hs]
    rw [hq] at q
    have hpr : pricesM n arcs s.1 = (waysE n arcs s.1).most.map fun o => vO (gO (waysE n arcs s.1).most 0) - vO o := rfl
    rw [hpr] at q
    generalize waysE n arcs s.1 = t at *
    have all : ∀ {i : Nat} {o : Option Val}, t.most[i]? = some o → ∃ v, o = some v := fun {i o} ho => by
      have hi := (List.getElem?_eq_some_iff.mp ho).1
      rw [w3.ml] at hi
      obtain ⟨v, hv, _⟩ := w3.bg (i : Int) (rng_mem.mpr ⟨by omega, by omega⟩)
      have := gO_at (p := (i : Int)) (l := t.most) (o := o) (by rw [Int.toNat_natCast]; exact ho)
      rw [this] at hv
      exact ⟨v, hv⟩
    obtain ⟨v0, hv0, _⟩ := w3.bg 0 (rng_mem.mpr ⟨by omega, by omega⟩)
    have e0 := opt_at w3.ml (p := 0) ⟨by omega, by omega⟩
    rw [hv0] at e0 q
    repeat' contradiction
    refine ⟨_, rfl, ?_⟩
    refine lc_mp (fun o => W.int (v0.1 - vO o)) rfl (le_line (by rw [w3.ml]; omega)) (fun o ho K hK => ?_) ?_
    · obtain ⟨i, hi⟩ := List.getElem?_of_mem ho
      obtain ⟨v, rfl⟩ := all hi
      repeat' contradiction
      refine ix_map (by decide) e0 ?_
      repeat' contradiction
      exact hK
    refine mk_t fun pp hpp => ?_
    have hpps : pp ≠ ps := ne_new sup_same hpp
    have hppf : pp ≠ pf := ne_new hff hpp
    repeat' contradiction
    refine d_ret (fun a o ha => ?_) (q pf pp hpf hppf (by rw [sup_ne hpps, sup_ne hppf] at hpp; exact hpp))
    by_cases c1 : a = pp
    · subst c1
      rw [sup_same] at ha ⊢
      rw [← ha]
      unfold iO
      rw [List.map_map]; rfl
    · rw [sup_ne c1] at ha ⊢
      by_cases c2 : a = pf
      · subst c2
        rw [sup_same] at ha
        rw [hff]; exact ha
      · rw [sup_ne c2] at ha
        rw [sup_ne (fun e => by rw [e, hps0] at ha; cases ha), sup_ne c2]
        exact ha
end
end HRc

set_option Elab.async false
set_option linter.all false
set_option maxRecDepth 100000
set_option maxHeartbeats 4000000
/-! HRn: the defs of nets, walked (for flows that go round). -/
namespace HRn
open PySem PySem.Spec PyProof.Rows L2 MP Circ HRc
local macro_rules
  | `(tactic| contradiction) => `(tactic| first | with_reducible refine d_in ?_ | with_reducible refine s_nil ?_ | with_reducible refine s_seq ?_ | with_reducible refine s_asg ?_ | with_reducible refine s_par ?_ | with_reducible refine s_expr ?_ | with_reducible refine s_ret ?_ | with_reducible refine s_retN ?_ | with_reducible refine s_iff ?_ | with_reducible refine s_fr ?_ | with_reducible refine s_cont ?_ | with_reducible refine s_brk ?_ | with_reducible refine s_pass ?_ | with_reducible refine s_augS ?_ | with_reducible refine e_int ?_ | with_reducible refine e_str ?_ | with_reducible refine e_bool ?_ | with_reducible refine e_none ?_ | with_reducible refine e_bin ?_ | with_reducible refine e_neg ?_ | with_reducible refine e_nt ?_ | with_reducible refine e_cmp ?_ | with_reducible refine e_chain ?_ | with_reducible refine e_an ?_ | with_reducible refine e_or ?_ | with_reducible refine an_1 ?_ | with_reducible refine an_2 ?_ | with_reducible refine or_1 ?_ | with_reducible refine or_2 ?_ | with_reducible refine e_ife ?_ | with_reducible refine e_call ?_ | with_reducible refine e_blt ?_ | with_reducible refine e_mth ?_ | with_reducible refine e_idx ?_ | with_reducible refine e_slc ?_ | with_reducible refine e_rev ?_ | with_reducible refine e_tup ?_ | with_reducible refine e_lst ?_ | with_reducible refine e_dnew ?_ | with_reducible refine e_dct ?_ | with_reducible refine e_isi ?_ | with_reducible refine e_lrg ?_ | with_reducible refine es_n ?_ | with_reducible refine es_c ?_ | with_reducible refine o_nil ?_ | with_reducible refine o_var ?_ | with_reducible refine o_cst ?_ | with_reducible refine o_bin ?_ | with_reducible refine o_neg ?_ | with_reducible refine o_blt ?_ | with_reducible refine o_call ?_ | with_reducible refine ik ?_ | with_reducible refine ng ?_ | with_reducible refine tq_bl ?_ | with_reducible refine tq_int ?_ | with_reducible refine tq_non ?_ | with_reducible refine tq_lst ?_ | with_reducible refine tq_tup ?_ | with_reducible refine t_var ?_ | with_reducible refine t_call ?_ | with_reducible refine t_blt ?_ | with_reducible refine t_mth ?_ | with_reducible refine t_idx ?_ | with_reducible refine t_isi ?_ | with_reducible refine t_cst ?_ | with_reducible refine t_nt ?_ | with_reducible refine t_cmp ?_ | with_reducible refine t_chain ?_ | with_reducible refine t_an ?_ | with_reducible refine t_or ?_ | with_reducible refine ant_1 ?_ | with_reducible refine ant_2 ?_ | with_reducible refine ort_1 ?_ | with_reducible refine ort_2 ?_ | with_reducible refine tr_bl ?_ | with_reducible refine tr_int ?_ | with_reducible refine tr_lst ?_ | with_reducible refine tr_non ?_ | with_reducible refine c_nil ?_ | with_reducible refine c_one ?_ | with_reducible refine g_sub ?_ | with_reducible refine gs_n ?_ | with_reducible refine gs_c ?_ | with_reducible refine i_seq ?_ | with_reducible refine i_rng1 ?_ | with_reducible refine i_rng2 ?_ | with_reducible refine i_rng3 ?_ | with_reducible refine i_zip ?_ | with_reducible refine i_enm ?_ | with_reducible refine b_add ?_ | with_reducible refine b_sub ?_ | with_reducible refine c_lt ?_ | with_reducible refine c_le ?_ | with_reducible refine c_gt ?_ | with_reducible refine c_ge ?_ | with_reducible refine mk_f ?_ | with_reducible refine ref_and ?_ | with_reducible refine u_set ?_ | with_reducible refine eq_i ?_ | with_reducible refine ne_i ?_ | with_reducible refine eq_b ?_ | with_reducible refine ne_b ?_ | with_reducible refine is_b ?_ | with_reducible refine isn_b ?_ | with_reducible refine is_n ?_ | with_reducible refine isn_n ?_ | with_reducible refine e_v0 ?_ | with_reducible refine g_v0 ?_ | with_reducible refine s_u0 ?_ | with_reducible refine e_v1 ?_ | with_reducible refine g_v1 ?_ | with_reducible refine s_u1 ?_ | with_reducible refine e_v2 ?_ | with_reducible refine g_v2 ?_ | with_reducible refine s_u2 ?_ | with_reducible refine e_v3 ?_ | with_reducible refine g_v3 ?_ | with_reducible refine s_u3 ?_ | with_reducible refine e_v4 ?_ | with_reducible refine g_v4 ?_ | with_reducible refine s_u4 ?_ | with_reducible refine e_v5 ?_ | with_reducible refine g_v5 ?_ | with_reducible refine s_u5 ?_ | with_reducible refine e_v6 ?_ | with_reducible refine g_v6 ?_ | with_reducible refine s_u6 ?_ | with_reducible refine e_v7 ?_ | with_reducible refine g_v7 ?_ | with_reducible refine s_u7 ?_ | with_reducible refine e_v8 ?_ | with_reducible refine g_v8 ?_ | with_reducible refine s_u8 ?_ | with_reducible refine e_v9 ?_ | with_reducible refine g_v9 ?_ | with_reducible refine s_u9 ?_ | with_reducible refine e_v10 ?_ | with_reducible refine g_v10 ?_ | with_reducible refine s_u10 ?_ | with_reducible refine e_v11 ?_ | with_reducible refine g_v11 ?_ | with_reducible refine s_u11 ?_ | with_reducible refine e_v12 ?_ | with_reducible refine g_v12 ?_ | with_reducible refine s_u12 ?_ | with_reducible refine e_v13 ?_ | with_reducible refine g_v13 ?_ | with_reducible refine s_u13 ?_ | with_reducible refine e_v14 ?_ | with_reducible refine g_v14 ?_ | with_reducible refine s_u14 ?_ | with_reducible refine e_v15 ?_ | with_reducible refine g_v15 ?_ | with_reducible refine s_u15 ?_ | with_reducible refine e_v16 ?_ | with_reducible refine g_v16 ?_ | with_reducible refine s_u16 ?_ | with_reducible refine e_v17 ?_ | with_reducible refine g_v17 ?_ | with_reducible refine s_u17 ?_ | with_reducible refine e_v18 ?_ | with_reducible refine g_v18 ?_ | with_reducible refine s_u18 ?_ | with_reducible refine e_v19 ?_ | with_reducible refine g_v19 ?_ | with_reducible refine s_u19 ?_ | ((with_reducible refine e_lc' (ρ' := ?rr) ?hw ?_); (case hw => (dsimp only [wipeW, List.map, List.set]; exact rfl))) | ((with_reducible refine g_tup ?hl ?_); (case hl => exact rfl)) | with_reducible refine b_mod (by first | decide | omega) ?_ | ((with_reducible refine b_pow (pow_ok (by decide) (by decide) (by decide)) ?_); simp only [Int.reduceToNat, Int.reducePow]) | with_reducible refine le_and (by simp only [List.length_cons, List.length_nil]; decide) ?_ | with_reducible refine l_intB ?_ | with_reducible refine l_intI ?_ | with_reducible refine sl_f ?_ | (refine l_len (by exact rfl) (q := ?_); skip) | (refine l_list (by exact rfl) ?_; skip) | (refine ix_t (by exact rfl) ?_; skip))

/-! is_circling -/
def N_is_circling : List Str := ["many", "arcs", "flows", "left", "flow", "begin", "end", "room", "own"]
def P_is_circling : List Str := ["many", "arcs", "flows"]
def c_is_circling : CS :=
  (.seq (.iff (.cmp .NotEq (.blt .len false (.cons (.var 2) .nil)) (.blt .len false (.cons (.var 1) .nil))) (.seq (.ret (.cst (.bool false))) .nil) .nil) (.seq (.asg (.tnm 3) (.bin true .mul (.lst false (.cons (.cst (.int 0)) .nil)) (.var 0))) (.seq (.fr (.ttup (.cons (.ttup (.cons (.tnm 5) (.cons (.tnm 6) (.cons (.tnm 7) (.cons (.tnm 8) .nil))))) (.cons (.tnm 4) .nil))) (.izip (.var 1) (.var 2)) (.seq (.iff (.nt (.chain .LtE .LtE (.cst (.int 0)) (.var 4) (.var 7))) (.seq (.ret (.cst (.bool false))) .nil) .nil) (.seq (.augS (.var 3) (.var 5) true (.var 4)) (.seq (.augS (.var 3) (.var 6) false (.var 4)) .nil)))) (.seq (.ret (.cmp .Eq (.var 3) (.bin false .mul (.lst false (.cons (.cst (.int 0)) .nil)) (.var 0)))) .nil))))
/-! worth -/
def N_worth : List Str := ["arcs", "flows", "arc", "flow"]
def P_worth : List Str := ["arcs", "flows"]
def c_worth : CS :=
  (.seq (.ret (.blt .sum false (.cons (.lc false [("arc", 2), ("flow", 3)] (.ttup (.cons (.tnm 2) (.cons (.tnm 3) .nil))) (.izip (.var 0) (.var 1)) .nil (.bin false .mul (.var 3) (.idx (.var 2) (.cst (.int 3))))) .nil))) .nil)
/-! bound_by -/
def N_bound_by : List Str := ["arcs", "prices", "begin", "end", "room", "own"]
def P_bound_by : List Str := ["arcs", "prices"]
def c_bound_by : CS :=
  (.seq (.ret (.blt .sum false (.cons (.lc false [("begin", 2), ("end", 3), ("room", 4), ("own", 5)] (.ttup (.cons (.tnm 2) (.cons (.tnm 3) (.cons (.tnm 4) (.cons (.tnm 5) .nil))))) (.iseq (.var 0)) .nil (.bin false .mul (.var 4) (.blt .max2 false (.cons (.cst (.int 0)) (.cons (.bin false .add (.bin false .sub (.var 5) (.idx (.var 1) (.var 2))) (.idx (.var 1) (.var 3))) .nil))))) .nil))) .nil)

/-- what is known of a net -/
def NetK (n : Nat) (arcs : List Arc) : Prop := GoodA n arcs ∧ RoomOK arcs ∧ WorthOK arcs ∧ arcs.length ≤ 200 ∧ 1 ≤ n ∧ n ≤ 40
def spCircT : MP.Spec := fun ws S Q _ => ∃ (n : Nat) (x y : W) (arcs : List Arc) (fl : List Int), ws = [.int n, x, y] ∧ rdL S x = some (arcs.map arcW) ∧ rdL S y = some (fl.map W.int) ∧ NetK n arcs ∧ FlowsOK n arcs fl ∧ Q (.bl true) S
def spWorthZ : MP.Spec := fun ws S Q _ => ∃ (n : Nat) (x y : W) (arcs : List Arc) (fl : List Int), ws = [x, y] ∧ rdL S x = some (arcs.map arcW) ∧ rdL S y = some (fl.map W.int) ∧ NetK n arcs ∧ FlowsOK n arcs fl ∧ Q (.int (worthZ arcs fl)) S
def spBoundZ : MP.Spec := fun ws S Q _ => ∃ (n : Nat) (x y : W) (arcs : List Arc) (ps : List Int), ws = [x, y] ∧ rdL S x = some (arcs.map arcW) ∧ rdL S y = some (ps.map W.int) ∧ NetK n arcs ∧ ps.length = n ∧ (∀ p, InP n p → -(10 ^ 10) ≤ gI ps p ∧ gI ps p ≤ 10 ^ 10) ∧ Q (.int (boundZ arcs ps)) S
theorem zero_list {l : List Int} {n : Nat} (hl : l.length = n) (h : ∀ z ∈ l, z = 0) : l = List.replicate n 0 := by
  rw [← hl]
  exact List.eq_replicate_iff.mpr ⟨rfl, h⟩
theorem pln_ints (ns : List Int) : Pln 1 (.lst (ns.map W.int)) := pln_map fun _ _ => .int 0 _
theorem spares_zero {n : Nat} {arcs : List Arc} {fl : List Int} (g : GoodA n arcs) (F : FlowsOK n arcs fl) (hn : 0 < n) : sparesM n arcs fl = List.replicate n 0 := by
  refine zero_list (spares_len g F.1 hn) fun z hz => ?_
  obtain ⟨i, hi⟩ := List.getElem?_of_mem hz
  have hl := (List.getElem?_eq_some_iff.mp hi).1
  rw [spares_len g F.1 hn] at hl
  have := spares_ok (p := (i : Int)) g F.1 ⟨by omega, by omega⟩
  rw [gI_of hi, F.2.2 _ ⟨by omega, by omega⟩] at this
  exact this
theorem ok_is_circling {Φ : Nat → MP.Spec} {ws : List W} {S : Sto} {Q : WK} {X X0 : XC} (h : spCircT ws S Q X) : wps Φ c_is_circling (startW N_is_circling ws) S (dEnds Q X0) := by
  obtain ⟨n, x, y, arcs, fl, rfl, hx, hy, ⟨g, g2, g3, g4, n1, n2⟩, F, q⟩ := h
  unfold c_is_circling
  show wps Φ _ [some (.int n), some x, some y, none, none, none, none, none, none] S (dEnds Q X0)
  repeat' contradiction
  refine len_ok hy ?_
  repeat' contradiction
  refine len_ok hx ?_
  repeat' contradiction
  refine iteF' (by rw [List.length_map, List.length_map, F.1]; simp) ?_
  repeat' contradiction
  refine b_rep rfl (by omega) (by simp only [List.length_cons, List.length_nil]; exact le_line (by omega)) ?_
  rw [Int.toNat_natCast, rep_map W.int n 0 (.int 0) rfl]
  refine mk_t fun p hp => ?_
  repeat' contradiction
  refine ⟨_, _, rdl_new hx hp, rdl_new hy hp, ?_⟩
  refine for_zip (fun i ρ S' => ∃ r4 r5 r6 r7 r8, ρ = [some (.int n), some x, some y, some (.ref p), r4, r5, r6, r7, r8] ∧ S' = sup S p (iO (((arcs.zip fl).take i).foldl addS (List.replicate n 0))))
    ⟨_, _, _, _, _, rfl, rfl⟩ (fun i ρ S' h => ?_) (fun i a f ρ S' ha hf' h K hK => ?_) (fun ρ S' h => ?_)
  · obtain ⟨_, _, _, _, _, rfl, rfl⟩ := h
    exact ⟨rdl_new hx hp, rdl_new hy hp⟩
  · obtain ⟨r4, r5, r6, r7, r8, rfl, rfl⟩ := h
    obtain ⟨g1, g2, _⟩ := g a (List.mem_of_getElem? ha)
    have hfb := F.2.1 i a ha
    rw [gI_of hf'] at hfb
    have hz : (arcs.zip fl)[i]? = some (a, f) := by rw [List.getElem?_zip_eq_some]; exact ⟨ha, hf'⟩
    have hlen : (((arcs.zip fl).take i).foldl addS (List.replicate n 0)).length = n := addS_fold_len List.length_replicate
    generalize hL : ((arcs.zip fl).take i).foldl addS (List.replicate n 0) = L at hlen
    have b0 := g1.1
    have b1 := g1.2
    have e0 := g2.1
    have e1 := g2.2
    repeat' contradiction
    refine ite_d (fun c => ?_) (fun c => absurd hfb.1 c)
    repeat' contradiction
    refine iteF' (by rw [decide_eq_true hfb.2]; rfl) ?_
    repeat' contradiction
    refine ix_mapc sup_same b0 (int_at hlen g1) ?_
    repeat' contradiction
    refine st_map (x := gI L a.1 - f) sup_same rfl b0 (by omega) ?_
    rw [sup_sup]
    have hlen2 : (L.set a.1.toNat (gI L a.1 - f)).length = n := by rw [List.length_set]; exact hlen
    repeat' contradiction
    refine ix_mapc sup_same e0 (int_at hlen2 g2) ?_
    repeat' contradiction
    refine st_map (x := gI (L.set a.1.toNat (gI L a.1 - f)) a.2.1 + f) sup_same rfl e0 (by omega) ?_
    rw [sup_sup]
    refine hK _ _ ⟨_, _, _, _, _, rfl, ?_⟩
    rw [take_fold hz, hL]
    rfl
  · obtain ⟨r4, r5, r6, r7, r8, rfl, rfl⟩ := h
    rw [show min arcs.length fl.length = (arcs.zip fl).length by rw [List.length_zip], List.take_length]
    have hs : (arcs.zip fl).foldl addS (List.replicate n 0) = sparesM n arcs fl := rfl
    rw [hs, spares_zero g F (by omega)]
    repeat' contradiction
    refine b_rep rfl (by omega) (by simp only [List.length_cons, List.length_nil]; exact le_line (by omega)) ?_
    rw [Int.toNat_natCast, rep_map W.int n 0 (.int 0) rfl]
    repeat' contradiction
    refine eq_r sup_same (pln_ints _) (pln_ints _) fun b hb => ?_
    rw [b_t hb rfl]
    exact d_ret (fewer_sup hp) q
theorem worth_sum : ∀ {arcs : List Arc} {fl : List Int}, ((arcs.zip fl).map fun p => p.2 * p.1.2.2.2).sum = worthZ arcs fl
  | [], _ => rfl
  | _ :: _, [] => rfl
  | x :: xs, f :: fs => by
    rw [List.zip_cons_cons, List.map_cons, List.sum_cons, worth_sum]; rfl
theorem map_int {α : Type} (g : α → Int) (xs : List α) : xs.map (fun p => W.int (g p)) = (xs.map g).map W.int := by rw [List.map_map]; rfl
theorem ok_worth {Φ : Nat → MP.Spec} {ws : List W} {S : Sto} {Q : WK} {X X0 : XC} (h : spWorthZ ws S Q X) : wps Φ c_worth (startW N_worth ws) S (dEnds Q X0) := by
  obtain ⟨n, x, y, arcs, fl, rfl, hx, hy, ⟨g, g2, g3, g4, n1, n2⟩, F, q⟩ := h
  unfold c_worth
  show wps Φ _ [some x, some y, none, none] S (dEnds Q X0)
  repeat' contradiction
  refine ⟨_, _, hx, hy, ?_⟩
  rw [zip_map]
  refine lc_mp (fun p => W.int (p.2 * p.1.2.2.2)) ⟨hx, hy⟩ (le_line (by rw [List.length_zip]; omega)) (fun p hp K hK => ?_) ?_
  · obtain ⟨i, hi⟩ := List.getElem?_of_mem hp
    rw [List.getElem?_zip_eq_some] at hi
    have h1 := g3 p.1 (List.mem_of_getElem? hi.1)
    have h2 := F.2.1 i p.1 hi.1
    rw [gI_of hi.2] at h2
    have h3 := g2 p.1 (List.mem_of_getElem? hi.1)
    repeat' contradiction
    refine b_mul (mul_ok (by omega) (by omega)) ?_
    exact hK
  rw [map_int]
  repeat' contradiction
  refine l_sum rfl ?_
  rw [worth_sum]
  exact d_same q
theorem ok_bound_by {Φ : Nat → MP.Spec} {ws : List W} {S : Sto} {Q : WK} {X X0 : XC} (h : spBoundZ ws S Q X) : wps Φ c_bound_by (startW N_bound_by ws) S (dEnds Q X0) := by
  obtain ⟨n, x, y, arcs, ps, rfl, hx, hy, ⟨g, g2, g3, g4, n1, n2⟩, hp, hb, q⟩ := h
  unfold c_bound_by
  show wps Φ _ [some x, some y, none, none, none, none] S (dEnds Q X0)
  repeat' contradiction
  refine ⟨_, rdi_l hx, ?_⟩
  refine lc_mp (fun a => W.int (a.2.2.1 * max 0 (a.2.2.2 - gI ps a.1 + gI ps a.2.1))) (rdi_l hx) (le_line (by omega)) (fun a ha K hK => ?_) ?_
  · obtain ⟨q1, q2, q3⟩ := g a ha
    have hr := g2 a ha
    have hw := g3 a ha
    have hb1 := hb _ q1
    have hb2 := hb _ q2
    repeat' contradiction
    refine ix_rm hy q1.1 (int_at hp q1) ?_
    repeat' contradiction
    refine ix_rm hy q2.1 (int_at hp q2) ?_
    repeat' contradiction
    refine l_max2 fun m hm => ?_
    refine b_mul (mul_ok (by omega) (by omega)) ?_
    rw [hm]
    exact hK
  rw [map_int]
  repeat' contradiction
  refine l_sum rfl ?_
  exact d_same q
end HRn

set_option Elab.async false
set_option linter.all false
set_option maxRecDepth 100000
set_option maxHeartbeats 4000000
/-! LA: the draws of the laws on nets. -/
namespace LA
open PySem PySem.Spec PyProof.Rows L2 MP
local macro_rules
  | `(tactic| contradiction) => `(tactic| first | with_reducible refine d_in ?_ | with_reducible refine s_nil ?_ | with_reducible refine s_seq ?_ | with_reducible refine s_asg ?_ | with_reducible refine s_par ?_ | with_reducible refine s_expr ?_ | with_reducible refine s_ret ?_ | with_reducible refine s_retN ?_ | with_reducible refine s_iff ?_ | with_reducible refine s_fr ?_ | with_reducible refine s_cont ?_ | with_reducible refine s_brk ?_ | with_reducible refine s_pass ?_ | with_reducible refine s_augS ?_ | with_reducible refine e_int ?_ | with_reducible refine e_str ?_ | with_reducible refine e_bool ?_ | with_reducible refine e_none ?_ | with_reducible refine e_bin ?_ | with_reducible refine e_neg ?_ | with_reducible refine e_nt ?_ | with_reducible refine e_cmp ?_ | with_reducible refine e_chain ?_ | with_reducible refine e_an ?_ | with_reducible refine e_or ?_ | with_reducible refine an_1 ?_ | with_reducible refine an_2 ?_ | with_reducible refine or_1 ?_ | with_reducible refine or_2 ?_ | with_reducible refine e_ife ?_ | with_reducible refine e_call ?_ | with_reducible refine e_blt ?_ | with_reducible refine e_mth ?_ | with_reducible refine e_idx ?_ | with_reducible refine e_slc ?_ | with_reducible refine e_rev ?_ | with_reducible refine e_tup ?_ | with_reducible refine e_lst ?_ | with_reducible refine e_dnew ?_ | with_reducible refine e_dct ?_ | with_reducible refine e_isi ?_ | with_reducible refine e_lrg ?_ | with_reducible refine es_n ?_ | with_reducible refine es_c ?_ | with_reducible refine o_nil ?_ | with_reducible refine o_var ?_ | with_reducible refine o_cst ?_ | with_reducible refine o_bin ?_ | with_reducible refine o_neg ?_ | with_reducible refine o_blt ?_ | with_reducible refine o_call ?_ | with_reducible refine ik ?_ | with_reducible refine ng ?_ | with_reducible refine tq_bl ?_ | with_reducible refine tq_int ?_ | with_reducible refine tq_non ?_ | with_reducible refine tq_lst ?_ | with_reducible refine tq_tup ?_ | with_reducible refine t_var ?_ | with_reducible refine t_call ?_ | with_reducible refine t_blt ?_ | with_reducible refine t_mth ?_ | with_reducible refine t_idx ?_ | with_reducible refine t_isi ?_ | with_reducible refine t_cst ?_ | with_reducible refine t_nt ?_ | with_reducible refine t_cmp ?_ | with_reducible refine t_chain ?_ | with_reducible refine t_an ?_ | with_reducible refine t_or ?_ | with_reducible refine ant_1 ?_ | with_reducible refine ant_2 ?_ | with_reducible refine ort_1 ?_ | with_reducible refine ort_2 ?_ | with_reducible refine tr_bl ?_ | with_reducible refine tr_int ?_ | with_reducible refine tr_lst ?_ | with_reducible refine tr_non ?_ | with_reducible refine c_nil ?_ | with_reducible refine c_one ?_ | with_reducible refine g_sub ?_ | with_reducible refine gs_n ?_ | with_reducible refine gs_c ?_ | with_reducible refine i_seq ?_ | with_reducible refine i_rng1 ?_ | with_reducible refine i_rng2 ?_ | with_reducible refine i_rng3 ?_ | with_reducible refine i_zip ?_ | with_reducible refine i_enm ?_ | with_reducible refine b_add ?_ | with_reducible refine b_sub ?_ | with_reducible refine c_lt ?_ | with_reducible refine c_le ?_ | with_reducible refine c_gt ?_ | with_reducible refine c_ge ?_ | with_reducible refine mk_f ?_ | with_reducible refine ref_and ?_ | with_reducible refine u_set ?_ | with_reducible refine eq_i ?_ | with_reducible refine ne_i ?_ | with_reducible refine eq_b ?_ | with_reducible refine ne_b ?_ | with_reducible refine is_b ?_ | with_reducible refine isn_b ?_ | with_reducible refine is_n ?_ | with_reducible refine isn_n ?_ | with_reducible refine e_v0 ?_ | with_reducible refine g_v0 ?_ | with_reducible refine s_u0 ?_ | with_reducible refine e_v1 ?_ | with_reducible refine g_v1 ?_ | with_reducible refine s_u1 ?_ | with_reducible refine e_v2 ?_ | with_reducible refine g_v2 ?_ | with_reducible refine s_u2 ?_ | with_reducible refine e_v3 ?_ | with_reducible refine g_v3 ?_ | with_reducible refine s_u3 ?_ | with_reducible refine e_v4 ?_ | with_reducible refine g_v4 ?_ | with_reducible refine s_u4 ?_ | with_reducible refine e_v5 ?_ | with_reducible refine g_v5 ?_ | with_reducible refine s_u5 ?_ | with_reducible refine e_v6 ?_ | with_reducible refine g_v6 ?_ | with_reducible refine s_u6 ?_ | with_reducible refine e_v7 ?_ | with_reducible refine g_v7 ?_ | with_reducible refine s_u7 ?_ | with_reducible refine e_v8 ?_ | with_reducible refine g_v8 ?_ | with_reducible refine s_u8 ?_ | with_reducible refine e_v9 ?_ | with_reducible refine g_v9 ?_ | with_reducible refine s_u9 ?_ | with_reducible refine e_v10 ?_ | with_reducible refine g_v10 ?_ | with_reducible refine s_u10 ?_ | with_reducible refine e_v11 ?_ | with_reducible refine g_v11 ?_ | with_reducible refine s_u11 ?_ | with_reducible refine e_v12 ?_ | with_reducible refine g_v12 ?_ | with_reducible refine s_u12 ?_ | with_reducible refine e_v13 ?_ | with_reducible refine g_v13 ?_ | with_reducible refine s_u13 ?_ | with_reducible refine e_v14 ?_ | with_reducible refine g_v14 ?_ | with_reducible refine s_u14 ?_ | with_reducible refine e_v15 ?_ | with_reducible refine g_v15 ?_ | with_reducible refine s_u15 ?_ | with_reducible refine e_v16 ?_ | with_reducible refine g_v16 ?_ | with_reducible refine s_u16 ?_ | with_reducible refine e_v17 ?_ | with_reducible refine g_v17 ?_ | with_reducible refine s_u17 ?_ | with_reducible refine e_v18 ?_ | with_reducible refine g_v18 ?_ | with_reducible refine s_u18 ?_ | with_reducible refine e_v19 ?_ | with_reducible refine g_v19 ?_ | with_reducible refine s_u19 ?_ | ((with_reducible refine e_lc' (ρ' := ?rr) ?hw ?_); (case hw => (dsimp only [wipeW, List.map, List.set]; exact rfl))) | ((with_reducible refine g_tup ?hl ?_); (case hl => exact rfl)) | with_reducible refine b_mod (by first | decide | omega) ?_ | ((with_reducible refine b_pow (pow_ok (by decide) (by decide) (by decide)) ?_); simp only [Int.reduceToNat, Int.reducePow]) | with_reducible refine le_and (by simp only [List.length_cons, List.length_nil]; decide) ?_ | with_reducible refine l_intB ?_ | with_reducible refine l_intI ?_ | with_reducible refine sl_f ?_ | (refine l_len (by exact rfl) (q := ?_); skip) | (refine l_list (by exact rfl) ?_; skip) | (refine ix_t (by exact rfl) ?_; skip))

/-! _law_drawn -/
def N_drawn : List Str := ["_law_script", "_law_at", "_law_k", "_law_cell"]
def P_drawn : List Str := ["_law_script", "_law_at"]
def c_drawn : CS :=
  (.seq (.asg (.tnm 2) (.idx (.var 1) (.cst (.int 0)))) (.seq (.asg (.tsub (.var 1) (.cst (.int 0))) (.bin false .add (.var 2) (.cst (.int 1)))) (.seq (.asg (.tnm 3) (.bin false .add (.bin false .add (.bin false .mod (.idx (.bin false .add (.slc false (.slc false (.var 0) (.bin false .mod (.var 2) (.blt .max2 false (.cons (.cst (.int 1)) (.cons (.blt .len false (.cons (.var 0) .nil)) .nil)))) .nil) .nil (.cst (.int 1))) (.lst false (.cons (.cst (.int 0)) .nil))) (.cst (.int 0))) (.bin false .pow (.cst (.int 10)) (.cst (.int 60)))) (.bin false .mul (.bin false .mul (.cst (.int 7919)) (.var 2)) (.var 2))) (.cst (.int 104729)))) (.seq (.ret (.bin false .fdiv (.bin false .mod (.bin false .mul (.bin false .mod (.bin false .mul (.var 3) (.var 3)) (.cst (.int 2147483647))) (.bin false .add (.cst (.int 48271)) (.bin false .mul (.cst (.int 2)) (.bin false .mod (.var 2) (.cst (.int 97)))))) (.cst (.int 998244353))) (.cst (.int 11)))) .nil))))
/-! _law_room -/
def N_room : List Str := ["_law_script", "_law_at", "_law_number", "_law_cell", "_law_great"]
def P_room : List Str := ["_law_script", "_law_at"]
def c_room (i_drawn : Nat) : CS :=
  (.seq (.asg (.tnm 2) (.call i_drawn (.cons (.var 0) (.cons (.var 1) .nil)))) (.seq (.asg (.tnm 3) (.bin false .mod (.idx (.bin false .add (.slc false (.slc false (.var 0) (.bin false .mod (.idx (.var 1) (.cst (.int 0))) (.blt .max2 false (.cons (.cst (.int 1)) (.cons (.blt .len false (.cons (.var 0) .nil)) .nil)))) .nil) .nil (.cst (.int 1))) (.lst false (.cons (.cst (.int 0)) .nil))) (.cst (.int 0))) (.bin false .pow (.cst (.int 10)) (.cst (.int 60))))) (.seq (.asg (.tnm 4) (.bin false .mod (.bin false .add (.bin false .mul (.var 3) (.cst (.int 48271))) (.var 2)) (.bin false .add (.bin false .pow (.cst (.int 10)) (.cst (.int 31))) (.cst (.int 1))))) (.seq (.ret (.idx (.lst false (.cons (.cst (.int 0)) (.cons (.bin false .add (.cst (.int 1)) (.bin false .mod (.bin false .fdiv (.var 2) (.cst (.int 8))) (.cst (.int 9)))) (.cons (.bin false .add (.cst (.int 1)) (.bin false .mod (.bin false .fdiv (.var 2) (.cst (.int 8))) (.cst (.int 9)))) (.cons (.bin false .mod (.bin false .fdiv (.var 2) (.cst (.int 8))) (.cst (.int 1000))) (.cons (.var 4) (.cons (.var 4) (.cons (.bin false .pow (.cst (.int 10)) (.cst (.int 31))) (.cons (.cst (.int 3)) .nil))))))))) (.bin false .mod (.var 2) (.cst (.int 8))))) .nil))))
/-! _law_worth -/
def N_worth : List Str := ["_law_script", "_law_at", "_law_number"]
def P_worth : List Str := ["_law_script", "_law_at"]
def c_worth (i_drawn : Nat) : CS :=
  (.seq (.asg (.tnm 2) (.call i_drawn (.cons (.var 0) (.cons (.var 1) .nil)))) (.seq (.ret (.idx (.lst false (.cons (.cst (.int 1)) (.cons (.cst (.int 0)) (.cons (.bin false .sub (.bin false .mod (.bin false .fdiv (.var 2) (.cst (.int 8))) (.cst (.int 7))) (.cst (.int 3))) (.cons (.bin false .sub (.cst (.int 0)) (.cst (.int 1))) (.cons (.bin false .sub (.bin false .mod (.bin false .fdiv (.var 2) (.cst (.int 8))) (.cst (.int 2001))) (.cst (.int 1000))) (.cons (.cst (.int 1000)) (.cons (.bin false .sub (.cst (.int 0)) (.cst (.int 1000))) (.cons (.cst (.int 0)) .nil))))))))) (.bin false .mod (.var 2) (.cst (.int 8))))) .nil))

abbrev iL (ns : List Int) : W := .lst (ns.map W.int)
theorem cell_at {ns : List Int} {lo hi : Option Int} {l2 h2 : Option Int} : ∃ z, atI (cutW (cutW (ns.map W.int) lo hi) l2 h2 ++ [W.int 0]) 0 = some (.int z) := by
  rw [cut_map, cut_map]
  generalize (List.take _ (List.drop _ (List.take _ (List.drop _ ns)))) = ms
  cases ms with
  | nil => exact ⟨0, atI_int (by decide) rfl⟩
  | cons m ms => exact ⟨m, atI_int (by decide) rfl⟩
theorem cell_len {ns : List Int} (hn : ns.length ≤ 63) {lo hi l2 h2 : Option Int} {w : W} : (cutW (cutW (ns.map W.int) lo hi) l2 h2).length + [w].length ≤ sizeLine := by
  have h1 := cut_len (zs := cutW (ns.map W.int) lo hi) (lo := l2) (hi := h2)
  have h3 := cut_len (zs := ns.map W.int) (lo := lo) (hi := hi)
  rw [List.length_map] at h3
  simp only [List.length_cons, List.length_nil]
  have : (1000 : Nat) ≤ sizeLine := by decide
  omega
theorem sq_lt {k : Int} (h0 : 0 ≤ k) (h : k < 1000000000) : 0 ≤ k * k ∧ k * k < 1000000000000000000 :=
  ⟨Int.mul_nonneg h0 h0, by have := Int.mul_le_mul (a := k) (b := k) (c := 999999999) (d := 999999999) (by omega) (by omega) h0 (by omega); omega⟩
theorem pick {ns : List Int} {i : Int} (P : Int → Prop) (h0 : 0 ≤ i) (h : i < ns.length) (hP : ∀ n ∈ ns, P n) : ∃ n, atI (ns.map W.int) i = some (.int n) ∧ P n := by
  have hl : i.toNat < ns.length := by omega
  exact ⟨ns[i.toNat], atI_int h0 (by rw [List.getElem?_map, List.getElem?_eq_getElem hl]; rfl), hP _ (List.getElem_mem hl)⟩
/-- the script and the counter -/
def Ctr (S : Sto) (a : Addr) (k : Int) (m : Int) : Prop := S a = some (.lst [.int k]) ∧ 0 ≤ k ∧ k + m < 1000000000
abbrev putC (S : Sto) (a : Addr) (k : Int) : Sto := sup S a (.lst [.int k])
def spDrawn : MP.Spec := fun ws S Q _ => ∃ ns a k, ws = [iL ns, .ref a] ∧ ns.length ≤ 63 ∧ Ctr S a k 1 ∧
  ∀ v, 0 ≤ v → v < 100000000 → Q (.int v) (putC S a (k + 1))
def spRoom : MP.Spec := fun ws S Q _ => ∃ ns a k, ws = [iL ns, .ref a] ∧ ns.length ≤ 63 ∧ Ctr S a k 2 ∧
  ∀ v, 0 ≤ v → v ≤ 10 ^ 31 → Q (.int v) (putC S a (k + 1))
def spWorth : MP.Spec := fun ws S Q _ => ∃ ns a k, ws = [iL ns, .ref a] ∧ ns.length ≤ 63 ∧ Ctr S a k 2 ∧
  ∀ v, -1000 ≤ v → v ≤ 1000 → Q (.int v) (putC S a (k + 1))
section
variable {ns : List Int} {a : Addr} {k : Int} {S S2 : Sto} {Q : WK} {X : XC}
theorem u_drawn (hn : ns.length ≤ 63) (ha : S a = some (.lst [.int k])) (h0 : 0 ≤ k) (h9 : k + 1 < 1000000000) (e : putC S a (k + 1) = S2) (q : ∀ v, 0 ≤ v → v < 100000000 → Q (.int v) S2) : spDrawn [iL ns, .ref a] S Q X := by
  subst e; exact ⟨ns, a, k, rfl, hn, ⟨ha, h0, h9⟩, q⟩
theorem u_room (hn : ns.length ≤ 63) (ha : S a = some (.lst [.int k])) (h0 : 0 ≤ k) (h9 : k + 2 < 1000000000) (e : putC S a (k + 1) = S2) (q : ∀ v, 0 ≤ v → v ≤ 10 ^ 31 → Q (.int v) S2) : spRoom [iL ns, .ref a] S Q X := by
  subst e; exact ⟨ns, a, k, rfl, hn, ⟨ha, h0, h9⟩, q⟩
theorem u_worth (hn : ns.length ≤ 63) (ha : S a = some (.lst [.int k])) (h0 : 0 ≤ k) (h9 : k + 2 < 1000000000) (e : putC S a (k + 1) = S2) (q : ∀ v, -1000 ≤ v → v ≤ 1000 → Q (.int v) S2) : spWorth [iL ns, .ref a] S Q X := by
  subst e; exact ⟨ns, a, k, rfl, hn, ⟨ha, h0, h9⟩, q⟩
end
theorem ok_drawn {Φ : Nat → MP.Spec} {ws : List W} {S : Sto} {Q : WK} {X X0 : XC} (h : spDrawn ws S Q X) : wps Φ (c_drawn) (startW N_drawn ws) S (dEnds Q X0) := by
  obtain ⟨ns, a, k, rfl, hn, ⟨ha, h0, h9⟩, q⟩ := h
  unfold c_drawn
  show wps Φ _ [some (iL ns), some (.ref a), none, none] S (dEnds Q X0)
  repeat' contradiction
  refine ix_c ha rfl ?_
  repeat' contradiction
  refine st_l (j := 0) ha (by exact rfl) ?_
  repeat' contradiction
  refine l_max2 fun m hm => ?_
  repeat' contradiction
  refine b_cat rfl rfl (cell_len hn) ?_
  repeat' contradiction
  obtain ⟨z, hz⟩ := cell_at (ns := ns) (lo := some (k % m)) (hi := none) (l2 := none) (h2 := some 1)
  refine ix_l hz ?_
  repeat' contradiction
  have hz1 := Int.emod_nonneg z (show (10 ^ 60 : Int) ≠ 0 by decide)
  have hz2 := Int.emod_lt_of_pos z (show (0 : Int) < 10 ^ 60 by decide)
  generalize z % _ = u at hz1 hz2 ⊢
  obtain ⟨k1, k2⟩ := sq_lt h0 (show k < 1000000000 by omega)
  refine b_mul (mul_ok (by omega) (by omega)) ?_
  repeat' contradiction
  refine b_mul (mul_ok (by omega) (by omega)) ?_
  rw [Int.mul_assoc]
  generalize k * k = kk at k1 k2 ⊢
  repeat' contradiction
  have c1 : 0 ≤ u + 7919 * kk + 104729 ∧ u + 7919 * kk + 104729 < 2 ^ 250 := by omega
  generalize u + 7919 * kk + 104729 = cl at c1 ⊢
  refine b_mul (mul_ok (by omega) (by omega)) ?_
  repeat' contradiction
  refine b_mul (mul_ok (by omega) (by omega)) ?_
  repeat' contradiction
  refine b_mul (mul_ok (by omega) (by omega)) ?_
  repeat' contradiction
  refine b_div (div_ok (by decide) (by decide)) ?_
  refine d_same (q _ ?_ ?_)
  · omega
  · omega
theorem ok_room {Φ : Nat → MP.Spec} {i_drawn : Nat} (hd : Φ i_drawn = spDrawn) {ws : List W} {S : Sto} {Q : WK} {X X0 : XC} (h : spRoom ws S Q X) : wps Φ (c_room i_drawn) (startW N_room ws) S (dEnds Q X0) := by
  obtain ⟨ns, a, k, rfl, hn, c, q⟩ := h
  unfold c_room
  show wps Φ _ [some (iL ns), some (.ref a), none, none, none] S (dEnds Q X0)
  repeat' contradiction
  rw [hd]
  refine u_drawn hn c.1 c.2.1 (by have := c.2.2; omega) rfl fun v v0 v1 => ?_
  repeat' contradiction
  refine ix_c sup_same rfl ?_
  repeat' contradiction
  refine l_max2 fun m hm => ?_
  repeat' contradiction
  refine b_cat rfl rfl (cell_len hn) ?_
  repeat' contradiction
  obtain ⟨z, hz⟩ := cell_at (ns := ns) (lo := some ((k + 1) % m)) (hi := none) (l2 := none) (h2 := some 1)
  refine ix_l hz ?_
  repeat' contradiction
  have hz1 := Int.emod_nonneg z (show (10 ^ 60 : Int) ≠ 0 by decide)
  have hz2 := Int.emod_lt_of_pos z (show (0 : Int) < 10 ^ 60 by decide)
  generalize z % _ = u at hz1 hz2 ⊢
  refine b_mul (mul_ok (by omega) (by omega)) ?_
  repeat' contradiction
  refine b_div (div_ok (by decide) (by decide)) ?_
  repeat' contradiction
  refine b_div (div_ok (by decide) (by decide)) ?_
  repeat' contradiction
  refine b_div (div_ok (by decide) (by decide)) ?_
  repeat' contradiction
  refine ix_any (by omega) (by simp only [List.length_cons, List.length_nil]; omega) ?_
  simp only [List.forall_mem_cons]
  refine ⟨?_, ?_, ?_, ?_, ?_, ?_, ?_, ?_, fun _ h => by cases h⟩
  all_goals refine d_same (q _ ?_ ?_)
  all_goals omega
theorem ok_worth {Φ : Nat → MP.Spec} {i_drawn : Nat} (hd : Φ i_drawn = spDrawn) {ws : List W} {S : Sto} {Q : WK} {X X0 : XC} (h : spWorth ws S Q X) : wps Φ (c_worth i_drawn) (startW N_worth ws) S (dEnds Q X0) := by
  obtain ⟨ns, a, k, rfl, hn, c, q⟩ := h
  unfold c_worth
  show wps Φ _ [some (iL ns), some (.ref a), none] S (dEnds Q X0)
  repeat' contradiction
  rw [hd]
  refine u_drawn hn c.1 c.2.1 (by have := c.2.2; omega) rfl fun v v0 v1 => ?_
  repeat' contradiction
  refine b_div (div_ok (by decide) (by decide)) ?_
  repeat' contradiction
  refine b_div (div_ok (by decide) (by decide)) ?_
  repeat' contradiction
  refine ix_any (by omega) (by simp only [List.length_cons, List.length_nil]; omega) ?_
  simp only [List.forall_mem_cons]
  refine ⟨?_, ?_, ?_, ?_, ?_, ?_, ?_, ?_, fun _ h => by cases h⟩
  all_goals refine d_same (q _ ?_ ?_)
  all_goals omega
end LA

set_option Elab.async false
set_option linter.all false
set_option maxRecDepth 100000
set_option maxHeartbeats 4000000
namespace K05
open PySem PySem.Spec PyProof.Rows L2 MP
def topS (i : Nat) : Stmt := PySem.Challenge.pw_hourring_k05_rounds_known.main.body.getD i (.Pass ⟨0, 0, 0, 0⟩)
def Gm : Gv := ⟨[("halves_of", 2), ("ways_from", 3), ("way_to", 2), ("spares_of", 3), ("led_back", 4), ("circulation", 2), ("is_circling", 3), ("worth", 2), ("bound_by", 2), ("_law_drawn", 2), ("_law_room", 2), ("_law_worth", 2), ("_law_ring", 3), ("_law_ring_due", 1), ("_law_two", 4), ("_law_two_due", 2), ("_law_known", 4), ("_law_order", 3), ("law", 1)], []⟩
/-! 0: halves_of -/
abbrev st0 : Stmt := topS 1
def N0 : List Str := ["arcs", "flows", "found", "number", "begin", "end", "room", "own"]
def P0 : List Str := ["arcs", "flows"]
def c0 : CS := HRc.c_halves_of 
theorem z0 : FnScope N0 P0 (defScope st0) := ⟨rfl, rfl, rfl, by decide +kernel, rfl, by decide +kernel, by decide +kernel⟩
theorem k0 : (cks Gm N0 0 c0).b ⟨defScope st0, none⟩ (defBody st0) = true := by decide +kernel
/-! 1: ways_from -/
abbrev st1 : Stmt := topS 2
def N1 : List Str := ["many", "halves", "begins", "most", "came", "place", "is_changed", "half", "more"]
def P1 : List Str := ["many", "halves", "begins"]
def c1 : CS := HRc.c_ways_from 
theorem z1 : FnScope N1 P1 (defScope st1) := ⟨rfl, rfl, rfl, by decide +kernel, rfl, by decide +kernel, by decide +kernel⟩
theorem k1 : (cks Gm N1 1 c1).b ⟨defScope st1, none⟩ (defBody st1) = true := by decide +kernel
/-! 2: way_to -/
abbrev st2 : Stmt := topS 3
def N2 : List Str := ["came", "end", "found", "place"]
def P2 : List Str := ["came", "end"]
def c2 : CS := HRc.c_way_to 
theorem z2 : FnScope N2 P2 (defScope st2) := ⟨rfl, rfl, rfl, by decide +kernel, rfl, by decide +kernel, by decide +kernel⟩
theorem k2 : (cks Gm N2 2 c2).b ⟨defScope st2, none⟩ (defBody st2) = true := by decide +kernel
/-! 3: spares_of -/
abbrev st3 : Stmt := topS 4
def N3 : List Str := ["many", "arcs", "flows", "found", "flow", "begin", "end", "room", "own"]
def P3 : List Str := ["many", "arcs", "flows"]
def c3 : CS := HRc.c_spares_of 
theorem z3 : FnScope N3 P3 (defScope st3) := ⟨rfl, rfl, rfl, by decide +kernel, rfl, by decide +kernel, by decide +kernel⟩
theorem k3 : (cks Gm N3 3 c3).b ⟨defScope st3, none⟩ (defBody st3) = true := by decide +kernel
/-! 4: led_back -/
abbrev st4 : Stmt := topS 5
def N4 : List Str := ["arcs", "flows", "spares", "way", "rooms", "half", "begin", "end"]
def P4 : List Str := ["arcs", "flows", "spares", "way"]
def c4 : CS := HRc.c_led_back 
theorem z4 : FnScope N4 P4 (defScope st4) := ⟨rfl, rfl, rfl, by decide +kernel, rfl, by decide +kernel, by decide +kernel⟩
theorem k4 : (cks Gm N4 4 c4).b ⟨defScope st4, none⟩ (defBody st4) = true := by decide +kernel
/-! 5: circulation -/
abbrev st5 : Stmt := topS 6
def N5 : List Str := ["many", "arcs", "flows", "spares", "begins", "ends", "most", "came", "arc", "place", "one"]
def P5 : List Str := ["many", "arcs"]
def c5 : CS := HRc.c_circulation 3 1 4 0 2
theorem z5 : FnScope N5 P5 (defScope st5) := ⟨rfl, rfl, rfl, by decide +kernel, rfl, by decide +kernel, by decide +kernel⟩
theorem k5 : (cks Gm N5 5 c5).b ⟨defScope st5, none⟩ (defBody st5) = true := by decide +kernel
/-! 6: is_circling -/
abbrev st6 : Stmt := topS 8
def N6 : List Str := ["many", "arcs", "flows", "left", "flow", "begin", "end", "room", "own"]
def P6 : List Str := ["many", "arcs", "flows"]
def c6 : CS := HRn.c_is_circling 
theorem z6 : FnScope N6 P6 (defScope st6) := ⟨rfl, rfl, rfl, by decide +kernel, rfl, by decide +kernel, by decide +kernel⟩
theorem k6 : (cks Gm N6 6 c6).b ⟨defScope st6, none⟩ (defBody st6) = true := by decide +kernel
/-! 7: worth -/
abbrev st7 : Stmt := topS 9
def N7 : List Str := ["arcs", "flows", "arc", "flow"]
def P7 : List Str := ["arcs", "flows"]
def c7 : CS := HRn.c_worth 
theorem z7 : FnScope N7 P7 (defScope st7) := ⟨rfl, rfl, rfl, by decide +kernel, rfl, by decide +kernel, by decide +kernel⟩
theorem k7 : (cks Gm N7 7 c7).b ⟨defScope st7, none⟩ (defBody st7) = true := by decide +kernel
/-! 8: bound_by -/
abbrev st8 : Stmt := topS 10
def N8 : List Str := ["arcs", "prices", "begin", "end", "room", "own"]
def P8 : List Str := ["arcs", "prices"]
def c8 : CS := HRn.c_bound_by 
theorem z8 : FnScope N8 P8 (defScope st8) := ⟨rfl, rfl, rfl, by decide +kernel, rfl, by decide +kernel, by decide +kernel⟩
theorem k8 : (cks Gm N8 8 c8).b ⟨defScope st8, none⟩ (defBody st8) = true := by decide +kernel
/-! 9: _law_drawn -/
abbrev st9 : Stmt := topS 12
def N9 : List Str := ["_law_script", "_law_at", "_law_k", "_law_cell"]
def P9 : List Str := ["_law_script", "_law_at"]
def c9 : CS := LA.c_drawn 
theorem z9 : FnScope N9 P9 (defScope st9) := ⟨rfl, rfl, rfl, by decide +kernel, rfl, by decide +kernel, by decide +kernel⟩
theorem k9 : (cks Gm N9 9 c9).b ⟨defScope st9, none⟩ (defBody st9) = true := by decide +kernel
/-! 10: _law_room -/
abbrev st10 : Stmt := topS 13
def N10 : List Str := ["_law_script", "_law_at", "_law_number", "_law_cell", "_law_great"]
def P10 : List Str := ["_law_script", "_law_at"]
def c10 : CS := LA.c_room 9
theorem z10 : FnScope N10 P10 (defScope st10) := ⟨rfl, rfl, rfl, by decide +kernel, rfl, by decide +kernel, by decide +kernel⟩
theorem k10 : (cks Gm N10 10 c10).b ⟨defScope st10, none⟩ (defBody st10) = true := by decide +kernel
/-! 11: _law_worth -/
abbrev st11 : Stmt := topS 14
def N11 : List Str := ["_law_script", "_law_at", "_law_number"]
def P11 : List Str := ["_law_script", "_law_at"]
def c11 : CS := LA.c_worth 9
theorem z11 : FnScope N11 P11 (defScope st11) := ⟨rfl, rfl, rfl, by decide +kernel, rfl, by decide +kernel, by decide +kernel⟩
theorem k11 : (cks Gm N11 11 c11).b ⟨defScope st11, none⟩ (defBody st11) = true := by decide +kernel
/-! 12: _law_ring -/
abbrev st12 : Stmt := topS 15
def N12 : List Str := ["_law_script", "_law_at", "_law_places", "_law_found", "_law_k"]
def P12 : List Str := ["_law_script", "_law_at", "_law_places"]
def c12 : CS :=
  (.seq (.asg (.tnm 3) (.lst true .nil)) (.seq (.fr (.tnm 4) (.irng1 (.blt .len false (.cons (.var 2) .nil))) (.seq (.expr (.mth .append (.var 3) (.cons (.tup (.cons (.idx (.var 2) (.var 4)) (.cons (.idx (.var 2) (.bin false .mod (.bin false .add (.var 4) (.cst (.int 1))) (.blt .len false (.cons (.var 2) .nil)))) (.cons (.call 10 (.cons (.var 0) (.cons (.var 1) .nil))) (.cons (.call 11 (.cons (.var 0) (.cons (.var 1) .nil))) .nil))))) .nil))) .nil)) (.seq (.gfrz 3) (.seq (.ret (.var 3)) .nil))))
theorem z12 : FnScope N12 P12 (defScope st12) := ⟨rfl, rfl, rfl, by decide +kernel, rfl, by decide +kernel, by decide +kernel⟩
theorem k12 : (cks Gm N12 12 c12).b ⟨defScope st12, none⟩ (defBody st12) = true := by decide +kernel
/-! 13: _law_ring_due -/
abbrev st13 : Stmt := topS 16
def N13 : List Str := ["_law_arcs", "_law_arc"]
def P13 : List Str := ["_law_arcs"]
def c13 : CS :=
  (.seq (.ret (.bin false .mul (.blt .max2 false (.cons (.cst (.int 0)) (.cons (.blt .sum false (.cons (.lc false [("_law_arc", 1)] (.tnm 1) (.iseq (.var 0)) .nil (.idx (.var 1) (.cst (.int 3)))) .nil)) .nil))) (.blt .minL false (.cons (.lc false [("_law_arc", 1)] (.tnm 1) (.iseq (.var 0)) .nil (.idx (.var 1) (.cst (.int 2)))) .nil)))) .nil)
theorem z13 : FnScope N13 P13 (defScope st13) := ⟨rfl, rfl, rfl, by decide +kernel, rfl, by decide +kernel, by decide +kernel⟩
theorem k13 : (cks Gm N13 13 c13).b ⟨defScope st13, none⟩ (defBody st13) = true := by decide +kernel
/-! 14: _law_two -/
abbrev st14 : Stmt := topS 17
def N14 : List Str := ["_law_script", "_law_at", "_law_one", "_law_other", "_law_found", "_law_k", "_law_ends"]
def P14 : List Str := ["_law_script", "_law_at", "_law_one", "_law_other"]
def c14 : CS :=
  (.seq (.asg (.tnm 4) (.lst true .nil)) (.seq (.fr (.tnm 5) (.irng1 (.bin false .add (.cst (.int 2)) (.bin false .mod (.call 9 (.cons (.var 0) (.cons (.var 1) .nil))) (.cst (.int 5))))) (.seq (.asg (.tnm 6) (.idx (.lst false (.cons (.tup (.cons (.var 2) (.cons (.var 3) .nil))) (.cons (.tup (.cons (.var 3) (.cons (.var 2) .nil))) .nil))) (.bin false .mod (.call 9 (.cons (.var 0) (.cons (.var 1) .nil))) (.cst (.int 2))))) (.seq (.expr (.mth .append (.var 4) (.cons (.bin false .add (.var 6) (.tup (.cons (.call 10 (.cons (.var 0) (.cons (.var 1) .nil))) (.cons (.call 11 (.cons (.var 0) (.cons (.var 1) .nil))) .nil)))) .nil))) .nil))) (.seq (.gfrz 4) (.seq (.ret (.var 4)) .nil))))
theorem z14 : FnScope N14 P14 (defScope st14) := ⟨rfl, rfl, rfl, by decide +kernel, rfl, by decide +kernel, by decide +kernel⟩
theorem k14 : (cks Gm N14 14 c14).b ⟨defScope st14, none⟩ (defBody st14) = true := by decide +kernel
/-! 15: _law_two_due -/
abbrev st15 : Stmt := topS 18
def N15 : List Str := ["_law_arcs", "_law_one", "_law_there", "_law_back", "_law_found", "_law_part", "_law_arc"]
def P15 : List Str := ["_law_arcs", "_law_one"]
def c15 : CS :=
  (.seq (.asg (.tnm 2) (.blt .sortD false (.cons (.lc false [("_law_arc", 6)] (.tnm 6) (.iseq (.var 0)) (.cons (.cmp .Eq (.idx (.var 6) (.cst (.int 0))) (.var 1)) .nil) (.lst true (.cons (.bin false .sub (.cst (.int 0)) (.idx (.var 6) (.cst (.int 3)))) (.cons (.idx (.var 6) (.cst (.int 2))) .nil)))) .nil))) (.seq (.asg (.tnm 3) (.blt .sortD false (.cons (.lc false [("_law_arc", 6)] (.tnm 6) (.iseq (.var 0)) (.cons (.cmp .NotEq (.idx (.var 6) (.cst (.int 0))) (.var 1)) .nil) (.lst true (.cons (.bin false .sub (.cst (.int 0)) (.idx (.var 6) (.cst (.int 3)))) (.cons (.idx (.var 6) (.cst (.int 2))) .nil)))) .nil))) (.seq (.asg (.tnm 4) (.cst (.int 0))) (.seq (.whl (.an (.cons (.cmp .NotEq (.var 2) (.lst false .nil)) (.cons (.cmp .NotEq (.var 3) (.lst false .nil)) (.cons (.cmp .Lt (.bin false .add (.idx (.idx (.var 2) (.cst (.int 0))) (.cst (.int 0))) (.idx (.idx (.var 3) (.cst (.int 0))) (.cst (.int 0)))) (.cst (.int 0))) .nil)))) (.seq (.asg (.tnm 5) (.blt .min2 false (.cons (.idx (.idx (.var 2) (.cst (.int 0))) (.cst (.int 1))) (.cons (.idx (.idx (.var 3) (.cst (.int 0))) (.cst (.int 1))) .nil)))) (.seq (.asg (.tnm 4) (.bin false .sub (.var 4) (.bin false .mul (.var 5) (.bin false .add (.idx (.idx (.var 2) (.cst (.int 0))) (.cst (.int 0))) (.idx (.idx (.var 3) (.cst (.int 0))) (.cst (.int 0))))))) (.seq (.asg (.tsub (.idx (.var 2) (.cst (.int 0))) (.cst (.int 1))) (.bin false .sub (.idx (.idx (.var 2) (.cst (.int 0))) (.cst (.int 1))) (.var 5))) (.seq (.asg (.tsub (.idx (.var 3) (.cst (.int 0))) (.cst (.int 1))) (.bin false .sub (.idx (.idx (.var 3) (.cst (.int 0))) (.cst (.int 1))) (.var 5))) (.seq (.asg (.tnm 2) (.slc false (.var 2) (.blt .int false (.cons (.cmp .Eq (.idx (.idx (.var 2) (.cst (.int 0))) (.cst (.int 1))) (.cst (.int 0))) .nil)) .nil)) (.seq (.asg (.tnm 3) (.slc false (.var 3) (.blt .int false (.cons (.cmp .Eq (.idx (.idx (.var 3) (.cst (.int 0))) (.cst (.int 1))) (.cst (.int 0))) .nil)) .nil)) .nil))))))) (.seq (.ret (.var 4)) .nil)))))
theorem z15 : FnScope N15 P15 (defScope st15) := ⟨rfl, rfl, rfl, by decide +kernel, rfl, by decide +kernel, by decide +kernel⟩
theorem k15 : (cks Gm N15 15 c15).b ⟨defScope st15, none⟩ (defBody st15) = true := by decide +kernel
/-! 16: _law_known -/
abbrev st16 : Stmt := topS 19
def N16 : List Str := ["_law_script", "_law_at", "_law_many", "_law_places", "_law_way", "_law_arcs", "_law_due", "_law_place", "_law_k", "_law_room_here", "_law_back", "_law_two_here", "_law_ring_here", "_law_arc", "_law_begin", "_law_end", "_law_space", "_law_own"]
def P16 : List Str := ["_law_script", "_law_at", "_law_many", "_law_places"]
def c16 : CS :=
  (.seq (.asg (.tnm 4) (.bin false .mod (.call 9 (.cons (.var 0) (.cons (.var 1) .nil))) (.cst (.int 5)))) (.seq (.iff (.cmp .Eq (.var 4) (.cst (.int 0))) (.seq (.asg (.tnm 5) (.call 12 (.cons (.var 0) (.cons (.var 1) (.cons (.var 3) .nil))))) (.seq (.ret (.tup (.cons (.var 5) (.cons (.call 13 (.cons (.var 5) .nil)) .nil)))) .nil)) .nil) (.seq (.iff (.cmp .Eq (.var 4) (.cst (.int 1))) (.seq (.asg (.tnm 5) (.lst false .nil)) (.seq (.asg (.tnm 6) (.cst (.int 0))) (.seq (.fr (.tnm 8) (.irng3 (.cst (.int 1)) (.bin false .sub (.var 2) (.cst (.int 1))) (.cst (.int 3))) (.seq (.asg (.tnm 12) (.call 12 (.cons (.var 0) (.cons (.var 1) (.cons (.bin false .add (.slc false (.var 3) .nil (.cst (.int 1))) (.slc false (.var 3) (.var 8) (.bin false .add (.var 8) (.cst (.int 3))))) .nil))))) (.seq (.asg (.tnm 5) (.bin false .add (.var 5) (.var 12))) (.seq (.asg (.tnm 6) (.bin false .add (.var 6) (.call 13 (.cons (.var 12) .nil)))) .nil)))) (.seq (.ret (.tup (.cons (.var 5) (.cons (.var 6) .nil)))) .nil)))) .nil) (.seq (.iff (.cmp .Eq (.var 4) (.cst (.int 2))) (.seq (.asg (.tnm 9) (.call 10 (.cons (.var 0) (.cons (.var 1) .nil)))) (.seq (.asg (.tnm 5) (.lc false [("_law_arc", 13)] (.tnm 13) (.iseq (.call 12 (.cons (.var 0) (.cons (.var 1) (.cons (.var 3) .nil))))) .nil (.bin false .add (.slc false (.var 13) .nil (.cst (.int 2))) (.tup (.cons (.var 9) (.cons (.idx (.var 13) (.cst (.int 3))) .nil)))))) (.seq (.asg (.tnm 10) (.lc false [("_law_begin", 14), ("_law_end", 15), ("_law_space", 16), ("_law_own", 17)] (.ttup (.cons (.tnm 14) (.cons (.tnm 15) (.cons (.tnm 16) (.cons (.tnm 17) .nil))))) (.iseq (.var 5)) .nil (.tup (.cons (.var 15) (.cons (.var 14) (.cons (.var 9) (.cons (.bin false .sub (.cst (.int 0)) (.var 17)) .nil))))))) (.seq (.ret (.tup (.cons (.bin false .add (.var 5) (.var 10)) (.cons (.bin false .mul (.blt .abs false (.cons (.blt .sum false (.cons (.lc false [("_law_arc", 13)] (.tnm 13) (.iseq (.var 5)) .nil (.idx (.var 13) (.cst (.int 3)))) .nil)) .nil)) (.var 9)) .nil)))) .nil)))) .nil) (.seq (.iff (.cmp .Eq (.var 4) (.cst (.int 3))) (.seq (.asg (.tnm 5) (.lst true .nil)) (.seq (.fr (.tnm 8) (.irng1 (.bin false .sub (.blt .len false (.cons (.var 3) .nil)) (.cst (.int 1)))) (.seq (.expr (.mth .append (.var 5) (.cons (.tup (.cons (.idx (.var 3) (.var 8)) (.cons (.idx (.var 3) (.bin false .add (.var 8) (.cst (.int 1)))) (.cons (.call 10 (.cons (.var 0) (.cons (.var 1) .nil))) (.cons (.call 11 (.cons (.var 0) (.cons (.var 1) .nil))) .nil))))) .nil))) .nil)) (.seq (.gfrz 5) (.seq (.ret (.tup (.cons (.var 5) (.cons (.cst (.int 0)) .nil)))) .nil)))) .nil) (.seq (.asg (.tnm 5) (.lst false .nil)) (.seq (.asg (.tnm 6) (.cst (.int 0))) (.seq (.fr (.tnm 7) (.iseq (.slc false (.var 3) (.cst (.int 1)) (.bin false .add (.cst (.int 1)) (.bin false .mod (.call 9 (.cons (.var 0) (.cons (.var 1) .nil))) (.cst (.int 20)))))) (.seq (.asg (.tnm 11) (.call 14 (.cons (.var 0) (.cons (.var 1) (.cons (.idx (.var 3) (.cst (.int 0))) (.cons (.var 7) .nil)))))) (.seq (.asg (.tnm 5) (.bin false .add (.var 5) (.var 11))) (.seq (.asg (.tnm 6) (.bin false .add (.var 6) (.call 15 (.cons (.var 11) (.cons (.idx (.var 3) (.cst (.int 0))) .nil))))) .nil)))) (.seq (.ret (.tup (.cons (.var 5) (.cons (.var 6) .nil)))) .nil)))))))))
theorem z16 : FnScope N16 P16 (defScope st16) := ⟨rfl, rfl, rfl, by decide +kernel, rfl, by decide +kernel, by decide +kernel⟩
theorem k16 : (cks Gm N16 16 c16).b ⟨defScope st16, none⟩ (defBody st16) = true := by decide +kernel
/-! 17: _law_order -/
abbrev st17 : Stmt := topS 20
def N17 : List Str := ["_law_script", "_law_at", "_law_many", "_law_left", "_law_found"]
def P17 : List Str := ["_law_script", "_law_at", "_law_many"]
def c17 : CS :=
  (.seq (.asg (.tnm 3) (.lrg true (.var 2))) (.seq (.asg (.tnm 4) (.lst true .nil)) (.seq (.whl (.cmp .NotEq (.var 3) (.lst false .nil)) (.seq (.expr (.mth .append (.var 4) (.cons (.mth .popAt (.var 3) (.cons (.bin false .mod (.call 9 (.cons (.var 0) (.cons (.var 1) .nil))) (.blt .len false (.cons (.var 3) .nil))) .nil)) .nil))) .nil)) (.seq (.gfrz 4) (.seq (.ret (.var 4)) .nil)))))
theorem z17 : FnScope N17 P17 (defScope st17) := ⟨rfl, rfl, rfl, by decide +kernel, rfl, by decide +kernel, by decide +kernel⟩
theorem k17 : (cks Gm N17 17 c17).b ⟨defScope st17, none⟩ (defBody st17) = true := by decide +kernel
/-! 18: law -/
abbrev st18 : Stmt := topS 21
def N18 : List Str := ["_law_script", "_law_at", "_law_turn", "_law_many", "_law_some", "_law_arcs", "_law_due", "_law_flows", "_law_prices"]
def P18 : List Str := ["_law_script"]
def c18 : CS :=
  (.seq (.asg (.tnm 1) (.lst true (.cons (.cst (.int 0)) .nil))) (.seq (.fr (.tnm 2) (.irng1 (.blt .max2 false (.cons (.cst (.int 4)) (.cons (.blt .min2 false (.cons (.cst (.int 20)) (.cons (.bin false .fdiv (.blt .len false (.cons (.var 0) .nil)) (.cst (.int 4))) .nil))) .nil)))) (.seq (.asg (.tnm 3) (.bin false .add (.cst (.int 2)) (.bin false .mod (.call 9 (.cons (.var 0) (.cons (.var 1) .nil))) (.idx (.lst false (.cons (.cst (.int 3)) (.cons (.cst (.int 29)) .nil))) (.bin false .mod (.call 9 (.cons (.var 0) (.cons (.var 1) .nil))) (.cst (.int 2))))))) (.seq (.asg (.ttup (.cons (.tnm 5) (.cons (.tnm 6) .nil))) (.call 16 (.cons (.var 0) (.cons (.var 1) (.cons (.var 3) (.cons (.call 17 (.cons (.var 0) (.cons (.var 1) (.cons (.var 3) .nil)))) .nil)))))) (.seq (.fr (.tnm 4) (.iseq (.tup (.cons (.var 5) (.cons (.rev false (.var 5)) .nil)))) (.seq (.asg (.ttup (.cons (.tnm 7) (.cons (.tnm 8) .nil))) (.call 5 (.cons (.var 3) (.cons (.var 4) .nil)))) (.seq (.iff (.or (.cons (.cmp .IsNot (.call 6 (.cons (.var 3) (.cons (.var 4) (.cons (.var 7) .nil)))) (.cst (.bool true))) (.cons (.cmp .NotEq (.call 7 (.cons (.var 4) (.cons (.var 7) .nil))) (.var 6)) .nil))) (.seq (.ret (.cst (.bool false))) .nil) .nil) (.seq (.iff (.or (.cons (.cmp .NotEq (.blt .len false (.cons (.var 8) .nil)) (.var 3)) (.cons (.cmp .NotEq (.idx (.var 8) (.cst (.int 0))) (.cst (.int 0))) (.cons (.cmp .NotEq (.call 8 (.cons (.var 4) (.cons (.var 8) .nil))) (.var 6)) .nil)))) (.seq (.ret (.cst (.bool false))) .nil) .nil) .nil)))) .nil)))) (.seq (.ret (.cst (.bool true))) .nil)))
theorem z18 : FnScope N18 P18 (defScope st18) := ⟨rfl, rfl, rfl, by decide +kernel, rfl, by decide +kernel, by decide +kernel⟩
theorem k18 : (cks Gm N18 18 c18).b ⟨defScope st18, none⟩ (defBody st18) = true := by decide +kernel
end K05

set_option Elab.async false
set_option linter.all false
set_option maxRecDepth 100000
set_option maxHeartbeats 4000000
namespace K05
open PySem PySem.Spec PyProof.Rows L2 MP Circ LA HRc HRn
local macro_rules
  | `(tactic| contradiction) => `(tactic| first | with_reducible refine d_in ?_ | with_reducible refine s_nil ?_ | with_reducible refine s_seq ?_ | with_reducible refine s_asg ?_ | with_reducible refine s_par ?_ | with_reducible refine s_expr ?_ | with_reducible refine s_ret ?_ | with_reducible refine s_retN ?_ | with_reducible refine s_iff ?_ | with_reducible refine s_fr ?_ | with_reducible refine s_cont ?_ | with_reducible refine s_brk ?_ | with_reducible refine s_pass ?_ | with_reducible refine s_augS ?_ | with_reducible refine e_int ?_ | with_reducible refine e_str ?_ | with_reducible refine e_bool ?_ | with_reducible refine e_none ?_ | with_reducible refine e_bin ?_ | with_reducible refine e_neg ?_ | with_reducible refine e_nt ?_ | with_reducible refine e_cmp ?_ | with_reducible refine e_chain ?_ | with_reducible refine e_an ?_ | with_reducible refine e_or ?_ | with_reducible refine an_1 ?_ | with_reducible refine an_2 ?_ | with_reducible refine or_1 ?_ | with_reducible refine or_2 ?_ | with_reducible refine e_ife ?_ | with_reducible refine e_call ?_ | with_reducible refine e_blt ?_ | with_reducible refine e_mth ?_ | with_reducible refine e_idx ?_ | with_reducible refine e_slc ?_ | with_reducible refine e_rev ?_ | with_reducible refine e_tup ?_ | with_reducible refine e_lst ?_ | with_reducible refine e_dnew ?_ | with_reducible refine e_dct ?_ | with_reducible refine e_isi ?_ | with_reducible refine e_lrg ?_ | with_reducible refine es_n ?_ | with_reducible refine es_c ?_ | with_reducible refine o_nil ?_ | with_reducible refine o_var ?_ | with_reducible refine o_cst ?_ | with_reducible refine o_bin ?_ | with_reducible refine o_neg ?_ | with_reducible refine o_blt ?_ | with_reducible refine o_call ?_ | with_reducible refine ik ?_ | with_reducible refine ng ?_ | with_reducible refine tq_bl ?_ | with_reducible refine tq_int ?_ | with_reducible refine tq_non ?_ | with_reducible refine tq_lst ?_ | with_reducible refine tq_tup ?_ | with_reducible refine t_var ?_ | with_reducible refine t_call ?_ | with_reducible refine t_blt ?_ | with_reducible refine t_mth ?_ | with_reducible refine t_idx ?_ | with_reducible refine t_isi ?_ | with_reducible refine t_cst ?_ | with_reducible refine t_nt ?_ | with_reducible refine t_cmp ?_ | with_reducible refine t_chain ?_ | with_reducible refine t_an ?_ | with_reducible refine t_or ?_ | with_reducible refine ant_1 ?_ | with_reducible refine ant_2 ?_ | with_reducible refine ort_1 ?_ | with_reducible refine ort_2 ?_ | with_reducible refine tr_bl ?_ | with_reducible refine tr_int ?_ | with_reducible refine tr_lst ?_ | with_reducible refine tr_non ?_ | with_reducible refine c_nil ?_ | with_reducible refine c_one ?_ | with_reducible refine g_sub ?_ | with_reducible refine gs_n ?_ | with_reducible refine gs_c ?_ | with_reducible refine i_seq ?_ | with_reducible refine i_rng1 ?_ | with_reducible refine i_rng2 ?_ | with_reducible refine i_rng3 ?_ | with_reducible refine i_zip ?_ | with_reducible refine i_enm ?_ | with_reducible refine b_add ?_ | with_reducible refine b_sub ?_ | with_reducible refine c_lt ?_ | with_reducible refine c_le ?_ | with_reducible refine c_gt ?_ | with_reducible refine c_ge ?_ | with_reducible refine mk_f ?_ | with_reducible refine ref_and ?_ | with_reducible refine u_set ?_ | with_reducible refine eq_i ?_ | with_reducible refine ne_i ?_ | with_reducible refine eq_b ?_ | with_reducible refine ne_b ?_ | with_reducible refine is_b ?_ | with_reducible refine isn_b ?_ | with_reducible refine is_n ?_ | with_reducible refine isn_n ?_ | with_reducible refine e_v0 ?_ | with_reducible refine g_v0 ?_ | with_reducible refine s_u0 ?_ | with_reducible refine e_v1 ?_ | with_reducible refine g_v1 ?_ | with_reducible refine s_u1 ?_ | with_reducible refine e_v2 ?_ | with_reducible refine g_v2 ?_ | with_reducible refine s_u2 ?_ | with_reducible refine e_v3 ?_ | with_reducible refine g_v3 ?_ | with_reducible refine s_u3 ?_ | with_reducible refine e_v4 ?_ | with_reducible refine g_v4 ?_ | with_reducible refine s_u4 ?_ | with_reducible refine e_v5 ?_ | with_reducible refine g_v5 ?_ | with_reducible refine s_u5 ?_ | with_reducible refine e_v6 ?_ | with_reducible refine g_v6 ?_ | with_reducible refine s_u6 ?_ | with_reducible refine e_v7 ?_ | with_reducible refine g_v7 ?_ | with_reducible refine s_u7 ?_ | with_reducible refine e_v8 ?_ | with_reducible refine g_v8 ?_ | with_reducible refine s_u8 ?_ | with_reducible refine e_v9 ?_ | with_reducible refine g_v9 ?_ | with_reducible refine s_u9 ?_ | with_reducible refine e_v10 ?_ | with_reducible refine g_v10 ?_ | with_reducible refine s_u10 ?_ | with_reducible refine e_v11 ?_ | with_reducible refine g_v11 ?_ | with_reducible refine s_u11 ?_ | with_reducible refine e_v12 ?_ | with_reducible refine g_v12 ?_ | with_reducible refine s_u12 ?_ | with_reducible refine e_v13 ?_ | with_reducible refine g_v13 ?_ | with_reducible refine s_u13 ?_ | with_reducible refine e_v14 ?_ | with_reducible refine g_v14 ?_ | with_reducible refine s_u14 ?_ | with_reducible refine e_v15 ?_ | with_reducible refine g_v15 ?_ | with_reducible refine s_u15 ?_ | with_reducible refine e_v16 ?_ | with_reducible refine g_v16 ?_ | with_reducible refine s_u16 ?_ | with_reducible refine e_v17 ?_ | with_reducible refine g_v17 ?_ | with_reducible refine s_u17 ?_ | with_reducible refine e_v18 ?_ | with_reducible refine g_v18 ?_ | with_reducible refine s_u18 ?_ | with_reducible refine e_v19 ?_ | with_reducible refine g_v19 ?_ | with_reducible refine s_u19 ?_ | ((with_reducible refine e_lc' (ρ' := ?rr) ?hw ?_); (case hw => (dsimp only [wipeW, List.map, List.set]; exact rfl))) | ((with_reducible refine g_tup ?hl ?_); (case hl => exact rfl)) | with_reducible refine b_mod (by first | decide | omega) ?_ | ((with_reducible refine b_pow (pow_ok (by decide) (by decide) (by decide)) ?_); simp only [Int.reduceToNat, Int.reducePow]) | with_reducible refine le_and (by simp only [List.length_cons, List.length_nil]; decide) ?_ | with_reducible refine l_intB ?_ | with_reducible refine l_intI ?_ | with_reducible refine sl_f ?_ | (refine l_len (by exact rfl) (q := ?_); skip) | (refine l_list (by exact rfl) ?_; skip) | (refine ix_t (by exact rfl) ?_; skip))

abbrev aL (xs : List Arc) : W := .lst (xs.map arcW)
def RwOK (rws : List (Int × Int)) : Prop := ∀ r ∈ rws, 0 ≤ r.1 ∧ r.1 ≤ 10 ^ 31 ∧ -1000 ≤ r.2 ∧ r.2 ≤ 1000
def spRing : MP.Spec := fun ws S Q _ => ∃ ns a k p L, ws = [LA.iL ns, .ref a, LA.iL (p :: L)] ∧ ns.length ≤ 63 ∧ Ctr S a k 1000 ∧ L.length ≤ 60 ∧
  ∀ rws k', rws.length = L.length + 1 → RwOK rws → k ≤ k' → k' ≤ k + 130 → Q (aL (ringA p L rws)) (putC S a k')
def ArcsOK (arcs : List Arc) : Prop := (∀ x ∈ arcs, 0 ≤ x.2.2.1 ∧ x.2.2.1 ≤ 10 ^ 31 ∧ -1000 ≤ x.2.2.2 ∧ x.2.2.2 ≤ 1000) ∧ arcs.length ≤ 200
def wSum (arcs : List Arc) : Int := (arcs.map fun x => x.2.2.2).sum
def spRingDue : MP.Spec := fun ws S Q _ => ∃ arcs, ws = [aL arcs] ∧ ArcsOK arcs ∧ arcs ≠ [] ∧ ∀ ρ, (∃ x ∈ arcs, x.2.2.1 = ρ) → (∀ x ∈ arcs, ρ ≤ x.2.2.1) → Q (.int (max 0 (wSum arcs) * ρ)) S
def Two (one b : Int) (arcs : List Arc) : Prop := ∀ x ∈ arcs, (x.1 = one ∧ x.2.1 = b) ∨ (x.1 = b ∧ x.2.1 = one)
def spTwo : MP.Spec := fun ws S Q _ => ∃ ns a k one b, ws = [LA.iL ns, .ref a, .int one, .int b] ∧ ns.length ≤ 63 ∧ Ctr S a k 1000 ∧
  ∀ arcs k', Two one b arcs → ArcsOK arcs → arcs.length ≤ 6 → k ≤ k' → k' ≤ k + 50 → Q (aL arcs) (putC S a k')
def spTwoDue : MP.Spec := fun ws S Q _ => ∃ arcs one, ws = [aL arcs, .int one] ∧ ArcsOK arcs ∧
  ∀ T B n, T.Perm (thereA one arcs) → B.Perm (backsA one arcs) → (T.Pairwise fun a b => a.1 ≤ b.1) → (B.Pairwise fun a b => a.1 ≤ b.1) → T.length + B.length ≤ n → Q (.int (gre n T B)) S
def spKnown : MP.Spec := fun ws S Q _ => ∃ ns a k n ps, ws = [LA.iL ns, .ref a, .int (n : Nat), LA.iL ps] ∧ ns.length ≤ 63 ∧ Ctr S a k 10000 ∧ 2 ≤ n ∧ n ≤ 31 ∧ ps.length = n ∧ ps.Nodup ∧ (∀ p ∈ ps, InP n p) ∧
  ∀ arcs due k', NetK n arcs → Known arcs due → k ≤ k' → k' ≤ k + 5000 → Q (.tup [aL arcs, .int due]) (putC S a k')
def spOrder : MP.Spec := fun ws S Q _ => ∃ ns a k n, ws = [LA.iL ns, .ref a, .int (n : Nat)] ∧ ns.length ≤ 63 ∧ Ctr S a k 1000 ∧ 2 ≤ n ∧ n ≤ 31 ∧
  ∀ ps k', ps.length = n → ps.Nodup → (∀ p ∈ ps, InP n p) → k ≤ k' → k' ≤ k + 100 → Q (LA.iL ps) (putC S a k')
def Phi : Nat → MP.Spec
  | 0 => spHalves
  | 1 => spWays
  | 2 => spWayTo
  | 3 => spSpares
  | 4 => spLed
  | 5 => spCirc
  | 6 => spCircT
  | 7 => spWorthZ
  | 8 => spBoundZ
  | 9 => spDrawn
  | 10 => spRoom
  | 11 => spWorth
  | 12 => spRing
  | 13 => spRingDue
  | 14 => spTwo
  | 15 => spTwoDue
  | 16 => spKnown
  | 17 => spOrder
  | 18 => lawSpec 63
  | _ => fun _ _ _ _ => False
theorem p0 : Phi 0 = spHalves := rfl
theorem p1 : Phi 1 = spWays := rfl
theorem p2 : Phi 2 = spWayTo := rfl
theorem p3 : Phi 3 = spSpares := rfl
theorem p4 : Phi 4 = spLed := rfl
theorem p5 : Phi 5 = spCirc := rfl
theorem p6 : Phi 6 = spCircT := rfl
theorem p7 : Phi 7 = spWorthZ := rfl
theorem p8 : Phi 8 = spBoundZ := rfl
theorem p9 : Phi 9 = spDrawn := rfl
theorem p10 : Phi 10 = spRoom := rfl
theorem p11 : Phi 11 = spWorth := rfl
theorem p12 : Phi 12 = spRing := rfl
theorem p13 : Phi 13 = spRingDue := rfl
theorem p14 : Phi 14 = spTwo := rfl
theorem p15 : Phi 15 = spTwoDue := rfl
theorem p16 : Phi 16 = spKnown := rfl
theorem p17 : Phi 17 = spOrder := rfl
theorem len0 : ∀ ws S Q X, Phi 0 ws S Q X → ws.length = P0.length := by rintro _ _ _ _ ⟨_, _, _, _, rfl, _⟩; rfl
theorem len1 : ∀ ws S Q X, Phi 1 ws S Q X → ws.length = P1.length := by rintro _ _ _ _ ⟨_, _, _, _, _, _, rfl, _⟩; rfl
theorem len2 : ∀ ws S Q X, Phi 2 ws S Q X → ws.length = P2.length := by rintro _ _ _ _ ⟨_, _, _, _, _, rfl, _⟩; rfl
theorem len3 : ∀ ws S Q X, Phi 3 ws S Q X → ws.length = P3.length := by rintro _ _ _ _ ⟨_, _, _, _, _, rfl, _⟩; rfl
theorem len4 : ∀ ws S Q X, Phi 4 ws S Q X → ws.length = P4.length := by rintro _ _ _ _ ⟨_, _, _, _, _, _, _, _, rfl, _⟩; rfl
theorem len5 : ∀ ws S Q X, Phi 5 ws S Q X → ws.length = P5.length := by rintro _ _ _ _ ⟨_, _, _, rfl, _⟩; rfl
theorem len6 : ∀ ws S Q X, Phi 6 ws S Q X → ws.length = P6.length := by rintro _ _ _ _ ⟨_, _, _, _, _, rfl, _⟩; rfl
theorem len7 : ∀ ws S Q X, Phi 7 ws S Q X → ws.length = P7.length := by rintro _ _ _ _ ⟨_, _, _, _, _, rfl, _⟩; rfl
theorem len8 : ∀ ws S Q X, Phi 8 ws S Q X → ws.length = P8.length := by rintro _ _ _ _ ⟨_, _, _, _, _, rfl, _⟩; rfl
theorem len9 : ∀ ws S Q X, Phi 9 ws S Q X → ws.length = P9.length := by rintro _ _ _ _ ⟨_, _, _, rfl, _⟩; rfl
theorem len10 : ∀ ws S Q X, Phi 10 ws S Q X → ws.length = P10.length := by rintro _ _ _ _ ⟨_, _, _, rfl, _⟩; rfl
theorem len11 : ∀ ws S Q X, Phi 11 ws S Q X → ws.length = P11.length := by rintro _ _ _ _ ⟨_, _, _, rfl, _⟩; rfl
theorem len12 : ∀ ws S Q X, Phi 12 ws S Q X → ws.length = P12.length := by rintro _ _ _ _ ⟨_, _, _, _, _, rfl, _⟩; rfl
theorem len13 : ∀ ws S Q X, Phi 13 ws S Q X → ws.length = P13.length := by rintro _ _ _ _ ⟨_, rfl, _⟩; rfl
theorem len14 : ∀ ws S Q X, Phi 14 ws S Q X → ws.length = P14.length := by rintro _ _ _ _ ⟨_, _, _, _, _, rfl, _⟩; rfl
theorem len15 : ∀ ws S Q X, Phi 15 ws S Q X → ws.length = P15.length := by rintro _ _ _ _ ⟨_, _, rfl, _⟩; rfl
theorem len16 : ∀ ws S Q X, Phi 16 ws S Q X → ws.length = P16.length := by rintro _ _ _ _ ⟨_, _, _, _, _, rfl, _⟩; rfl
theorem len17 : ∀ ws S Q X, Phi 17 ws S Q X → ws.length = P17.length := by rintro _ _ _ _ ⟨_, _, _, _, rfl, _⟩; rfl
theorem len18 : ∀ ws S Q X, Phi 18 ws S Q X → ws.length = P18.length := by rintro _ _ _ _ ⟨_, rfl, _⟩; rfl
theorem ok0 : ∀ ws S Q X, Phi 0 ws S Q X → wps Phi c0 (startW N0 ws) S (dEnds Q XN) := fun _ _ _ X h => ok_halves_of (X := X) h
theorem ok1 : ∀ ws S Q X, Phi 1 ws S Q X → wps Phi c1 (startW N1 ws) S (dEnds Q XN) := fun _ _ _ X h => ok_ways_from (X := X) h
theorem ok2 : ∀ ws S Q X, Phi 2 ws S Q X → wps Phi c2 (startW N2 ws) S (dEnds Q XN) := fun _ _ _ X h => ok_way_to (X := X) h
theorem ok3 : ∀ ws S Q X, Phi 3 ws S Q X → wps Phi c3 (startW N3 ws) S (dEnds Q XN) := fun _ _ _ X h => ok_spares_of (X := X) h
theorem ok4 : ∀ ws S Q X, Phi 4 ws S Q X → wps Phi c4 (startW N4 ws) S (dEnds Q XN) := fun _ _ _ X h => ok_led_back (X := X) h
theorem ok5 : ∀ ws S Q X, Phi 5 ws S Q X → wps Phi c5 (startW N5 ws) S (dEnds Q XN) := fun _ _ _ X h => ok_circulation rfl rfl rfl rfl rfl (X := X) h
theorem ok6 : ∀ ws S Q X, Phi 6 ws S Q X → wps Phi c6 (startW N6 ws) S (dEnds Q XN) := fun _ _ _ X h => ok_is_circling (X := X) h
theorem ok7 : ∀ ws S Q X, Phi 7 ws S Q X → wps Phi c7 (startW N7 ws) S (dEnds Q XN) := fun _ _ _ X h => HRn.ok_worth (X := X) h
theorem ok8 : ∀ ws S Q X, Phi 8 ws S Q X → wps Phi c8 (startW N8 ws) S (dEnds Q XN) := fun _ _ _ X h => ok_bound_by (X := X) h
theorem ok9 : ∀ ws S Q X, Phi 9 ws S Q X → wps Phi c9 (startW N9 ws) S (dEnds Q XN) := fun _ _ _ X h => ok_drawn (X := X) h
theorem ok10 : ∀ ws S Q X, Phi 10 ws S Q X → wps Phi c10 (startW N10 ws) S (dEnds Q XN) := fun _ _ _ X h => ok_room rfl (X := X) h
theorem ok11 : ∀ ws S Q X, Phi 11 ws S Q X → wps Phi c11 (startW N11 ws) S (dEnds Q XN) := fun _ _ _ X h => LA.ok_worth rfl (X := X) h
theorem pathA_take {L : List Int} {rws : List (Int × Int)} {i : Nat} {x y : Int} {r : Int × Int} (hx : L[i]? = some x) (hy : L[i + 1]? = some y) (hl : rws.length = i) :
    pathA (L.take (i + 2)) (rws ++ [r]) = pathA (L.take (i + 1)) rws ++ [(x, y, r.1, r.2)] := by
  have h1 := (List.getElem?_eq_some_iff.mp hx).1
  have e1 : L.take (i + 1) = L.take i ++ [x] := by rw [List.take_add_one, hx]; rfl
  have e2 : L.take (i + 2) = L.take (i + 1) ++ [y] := by rw [List.take_add_one, hy]; rfl
  rw [e2, e1]
  exact pathA_snoc (by rw [List.length_append, List.length_take, List.length_singleton]; omega)
theorem ok12 : ∀ ws S Q X, Phi 12 ws S Q X → wps Phi c12 (startW N12 ws) S (dEnds Q XN) := by
  rintro ws S Q X ⟨ns, a, k, p0, L, rfl, hn, ⟨ha, h0, h9⟩, hL, q⟩
  unfold c12
  show wps Phi _ [some (LA.iL ns), some (.ref a), some (LA.iL (p0 :: L)), none, none] S (dEnds Q XN)
  repeat' contradiction
  refine mk_t fun p hp => ?_
  have hpa : p ≠ a := ne_new ha hp
  have hal : ∀ {x o}, (sup (putC S a x) p o) a = some (.lst [.int x]) := fun {x o} => by rw [sup_ne hpa.symm]; exact sup_same
  repeat' contradiction
  rw [List.length_map]
  refine rg1 (by rw [List.length_cons]; omega) ?_
  rw [Int.toNat_natCast]
  refine for_rng (fun i ρ S' => ∃ (rws : List (Int × Int)) (k' : Int) (r4 : Option W), ρ = [some (LA.iL ns), some (.ref a), some (LA.iL (p0 :: L)), some (.ref p), r4] ∧ S' = sup (putC S a k') p (.lst ((pathA ((p0 :: L ++ [p0]).take (i + 1)) rws).map arcW)) ∧ rws.length = i ∧ RwOK rws ∧ k ≤ k' ∧ k' ≤ k + 2 * i)
    ⟨[], k, _, rfl, ?_, rfl, fun x h => (by cases h), by omega, by omega⟩ (fun _ _ _ _ => trivial) (fun i ρ S' hi h K hK => ?_) (fun ρ S' h => ?_)
  · rw [show putC S a k = S from sup_id ha]; rfl
  · obtain ⟨rws, k', r4, rfl, rfl, hl, hr, hk, hk2⟩ := h
    rw [List.length_cons] at hi
    have e0 : (0 + (i : Int)).toNat = i := by omega
    obtain ⟨x, hx⟩ : ∃ x, (p0 :: L)[i]? = some x := ⟨_, List.getElem?_eq_getElem (by rw [List.length_cons]; omega)⟩
    have hx2 : (p0 :: L ++ [p0])[i]? = some x := by rw [List.getElem?_append_left (by rw [List.length_cons]; omega)]; exact hx
    obtain ⟨y, hy, hy2⟩ : ∃ y, (p0 :: L)[((0 + (i : Int) + 1) % ((L.length + 1 : Nat) : Int)).toNat]? = some y ∧ (p0 :: L ++ [p0])[i + 1]? = some y := by
      by_cases c : i + 1 < L.length + 1
      · have e : ((0 + (i : Int) + 1) % ((L.length + 1 : Nat) : Int)).toNat = i + 1 := by rw [Int.emod_eq_of_lt (by omega) (by omega)]; omega
        rw [e]
        have : i + 1 < (p0 :: L).length := by rw [List.length_cons]; omega
        exact ⟨_, List.getElem?_eq_getElem this, by rw [List.getElem?_append_left this]; exact List.getElem?_eq_getElem this⟩
      · have e : ((0 + (i : Int) + 1) % ((L.length + 1 : Nat) : Int)).toNat = 0 := by rw [show 0 + (i : Int) + 1 = ((L.length + 1 : Nat) : Int) by omega, Int.emod_self]; rfl
        rw [e]
        refine ⟨p0, rfl, ?_⟩
        rw [List.getElem?_append_right (by rw [List.length_cons]; omega), List.length_cons, show i + 1 - (L.length + 1) = 0 by omega]
        rfl
    repeat' contradiction
    refine m_rcv rfl sup_same ?_
    repeat' contradiction
    refine ix_map (by omega) (by rw [e0]; exact hx) ?_
    repeat' contradiction
    rw [List.length_map, List.length_cons]
    refine b_mod (by omega) ?_
    repeat' contradiction
    refine ix_map (Int.emod_nonneg _ (by omega)) hy ?_
    repeat' contradiction
    rw [p10]
    refine u_room hn hal (by omega) (by omega) (sup_swap hpa) fun rm rm0 rm1 => ?_
    repeat' contradiction
    rw [p11]
    refine u_worth hn hal (by omega) (by omega) (sup_swap hpa) fun w w0 w1 => ?_
    repeat' contradiction
    refine m_app sup_same (lt_line ?_) ?_
    · rw [List.length_map, pathA_len (by rw [List.length_take, List.length_append, List.length_cons, List.length_singleton]; omega)]; omega
    rw [sup_sup]
    repeat' contradiction
    refine hK _ _ ⟨rws ++ [(rm, w)], k' + 1 + 1, _, rfl, ?_, ?_, ?_, by omega, by omega⟩
    · rw [pathA_take hx2 hy2 hl, List.map_append]; rfl
    · rw [List.length_append, hl]; rfl
    · intro r hr2
      rcases List.mem_append.mp hr2 with hr2 | hr2
      · exact hr r hr2
      · cases List.mem_singleton.mp hr2; exact ⟨rm0, rm1, w0, w1⟩
  · obtain ⟨rws, k', r4, rfl, rfl, hl, hr, hk, hk2⟩ := h
    have e : (p0 :: L ++ [p0]).take ((p0 :: L).length + 1) = p0 :: L ++ [p0] := by
      rw [List.take_of_length_le]; rw [List.length_append, List.length_singleton]; omega
    rw [e]
    repeat' contradiction
    refine s_gf3 sup_same ?_
    rw [sdel_sup (sup_none hpa hp)]
    repeat' contradiction
    rw [List.length_cons] at hl hk2
    exact d_same (q rws k' (by rw [hl]) hr hk (by omega))
theorem sum_bd {B : Int} : ∀ {l : List Int}, (∀ x ∈ l, -B ≤ x ∧ x ≤ B) → -(B * l.length) ≤ l.sum ∧ l.sum ≤ B * l.length
  | [], _ => by simp
  | x :: xs, h => by
    have h1 := h x (by simp)
    have h2 := sum_bd (l := xs) fun y hy => h y (by simp [hy])
    rw [List.sum_cons, List.length_cons]
    have e : B * ((xs.length + 1 : Nat) : Int) = B * xs.length + B := by rw [Int.natCast_add, Int.mul_add]; simp
    rw [e]; omega
theorem wSum_bd {arcs : List Arc} (h : ArcsOK arcs) : -200000 ≤ wSum arcs ∧ wSum arcs ≤ 200000 := by
  have := sum_bd (B := 1000) (l := arcs.map fun x => x.2.2.2) fun y hy => by
    obtain ⟨x, hx, rfl⟩ := List.mem_map.mp hy
    have := h.1 x hx; omega
  rw [List.length_map] at this
  have h2 := h.2
  unfold wSum
  omega
theorem ok13 : ∀ ws S Q X, Phi 13 ws S Q X → wps Phi c13 (startW N13 ws) S (dEnds Q XN) := by
  rintro ws S Q X ⟨arcs, rfl, h, hne, q⟩
  have hb := wSum_bd h
  have h2 := h.2
  unfold c13
  show wps Phi _ [some (aL arcs), none] S (dEnds Q XN)
  repeat' contradiction
  refine ⟨_, rfl, ?_⟩
  refine lc_mp (fun a => W.int a.2.2.2) rfl (le_line (by omega)) (fun a ha K hK => ?_) ?_
  · repeat' contradiction
    exact hK
  repeat' contradiction
  rw [HRn.map_int]
  refine l_sum rfl ?_
  repeat' contradiction
  refine l_max2 fun m hm => ?_
  repeat' contradiction
  refine ⟨_, rfl, ?_⟩
  refine lc_mp (fun a => W.int a.2.2.1) rfl (le_line (by omega)) (fun a ha K hK => ?_) ?_
  · repeat' contradiction
    exact hK
  repeat' contradiction
  rw [HRn.map_int]
  refine l_minL rfl (by rw [List.length_map]; exact List.length_pos_iff.mpr hne) fun ρ h1 h2 => ?_
  obtain ⟨x, hx, rfl⟩ := List.mem_map.mp h1
  have hxb := h.1 x hx
  have hs : (arcs.map fun p => p.2.2.2).sum = wSum arcs := rfl
  rw [hs] at hm
  refine b_mul (mul_ok (by omega) (by omega)) ?_
  rw [hm]
  exact d_same (q _ ⟨x, hx, rfl⟩ fun y hy => h2 _ (List.mem_map.mpr ⟨y, hy, rfl⟩))
end K05

set_option Elab.async false
set_option linter.all false
set_option maxRecDepth 100000
set_option maxHeartbeats 4000000
namespace K05
open PySem PySem.Spec PyProof.Rows L2 MP Circ LA HRc HRn
local macro_rules
  | `(tactic| contradiction) => `(tactic| first | with_reducible refine d_in ?_ | with_reducible refine s_nil ?_ | with_reducible refine s_seq ?_ | with_reducible refine s_asg ?_ | with_reducible refine s_par ?_ | with_reducible refine s_expr ?_ | with_reducible refine s_ret ?_ | with_reducible refine s_retN ?_ | with_reducible refine s_iff ?_ | with_reducible refine s_fr ?_ | with_reducible refine s_cont ?_ | with_reducible refine s_brk ?_ | with_reducible refine s_pass ?_ | with_reducible refine s_augS ?_ | with_reducible refine e_int ?_ | with_reducible refine e_str ?_ | with_reducible refine e_bool ?_ | with_reducible refine e_none ?_ | with_reducible refine e_bin ?_ | with_reducible refine e_neg ?_ | with_reducible refine e_nt ?_ | with_reducible refine e_cmp ?_ | with_reducible refine e_chain ?_ | with_reducible refine e_an ?_ | with_reducible refine e_or ?_ | with_reducible refine an_1 ?_ | with_reducible refine an_2 ?_ | with_reducible refine or_1 ?_ | with_reducible refine or_2 ?_ | with_reducible refine e_ife ?_ | with_reducible refine e_call ?_ | with_reducible refine e_blt ?_ | with_reducible refine e_mth ?_ | with_reducible refine e_idx ?_ | with_reducible refine e_slc ?_ | with_reducible refine e_rev ?_ | with_reducible refine e_tup ?_ | with_reducible refine e_lst ?_ | with_reducible refine e_dnew ?_ | with_reducible refine e_dct ?_ | with_reducible refine e_isi ?_ | with_reducible refine e_lrg ?_ | with_reducible refine es_n ?_ | with_reducible refine es_c ?_ | with_reducible refine o_nil ?_ | with_reducible refine o_var ?_ | with_reducible refine o_cst ?_ | with_reducible refine o_bin ?_ | with_reducible refine o_neg ?_ | with_reducible refine o_blt ?_ | with_reducible refine o_call ?_ | with_reducible refine ik ?_ | with_reducible refine ng ?_ | with_reducible refine tq_bl ?_ | with_reducible refine tq_int ?_ | with_reducible refine tq_non ?_ | with_reducible refine tq_lst ?_ | with_reducible refine tq_tup ?_ | with_reducible refine t_var ?_ | with_reducible refine t_call ?_ | with_reducible refine t_blt ?_ | with_reducible refine t_mth ?_ | with_reducible refine t_idx ?_ | with_reducible refine t_isi ?_ | with_reducible refine t_cst ?_ | with_reducible refine t_nt ?_ | with_reducible refine t_cmp ?_ | with_reducible refine t_chain ?_ | with_reducible refine t_an ?_ | with_reducible refine t_or ?_ | with_reducible refine ant_1 ?_ | with_reducible refine ant_2 ?_ | with_reducible refine ort_1 ?_ | with_reducible refine ort_2 ?_ | with_reducible refine tr_bl ?_ | with_reducible refine tr_int ?_ | with_reducible refine tr_lst ?_ | with_reducible refine tr_non ?_ | with_reducible refine c_nil ?_ | with_reducible refine c_one ?_ | with_reducible refine g_sub ?_ | with_reducible refine gs_n ?_ | with_reducible refine gs_c ?_ | with_reducible refine i_seq ?_ | with_reducible refine i_rng1 ?_ | with_reducible refine i_rng2 ?_ | with_reducible refine i_rng3 ?_ | with_reducible refine i_zip ?_ | with_reducible refine i_enm ?_ | with_reducible refine b_add ?_ | with_reducible refine b_sub ?_ | with_reducible refine c_lt ?_ | with_reducible refine c_le ?_ | with_reducible refine c_gt ?_ | with_reducible refine c_ge ?_ | with_reducible refine mk_f ?_ | with_reducible refine ref_and ?_ | with_reducible refine u_set ?_ | with_reducible refine eq_i ?_ | with_reducible refine ne_i ?_ | with_reducible refine eq_b ?_ | with_reducible refine ne_b ?_ | with_reducible refine is_b ?_ | with_reducible refine isn_b ?_ | with_reducible refine is_n ?_ | with_reducible refine isn_n ?_ | with_reducible refine e_v0 ?_ | with_reducible refine g_v0 ?_ | with_reducible refine s_u0 ?_ | with_reducible refine e_v1 ?_ | with_reducible refine g_v1 ?_ | with_reducible refine s_u1 ?_ | with_reducible refine e_v2 ?_ | with_reducible refine g_v2 ?_ | with_reducible refine s_u2 ?_ | with_reducible refine e_v3 ?_ | with_reducible refine g_v3 ?_ | with_reducible refine s_u3 ?_ | with_reducible refine e_v4 ?_ | with_reducible refine g_v4 ?_ | with_reducible refine s_u4 ?_ | with_reducible refine e_v5 ?_ | with_reducible refine g_v5 ?_ | with_reducible refine s_u5 ?_ | with_reducible refine e_v6 ?_ | with_reducible refine g_v6 ?_ | with_reducible refine s_u6 ?_ | with_reducible refine e_v7 ?_ | with_reducible refine g_v7 ?_ | with_reducible refine s_u7 ?_ | with_reducible refine e_v8 ?_ | with_reducible refine g_v8 ?_ | with_reducible refine s_u8 ?_ | with_reducible refine e_v9 ?_ | with_reducible refine g_v9 ?_ | with_reducible refine s_u9 ?_ | with_reducible refine e_v10 ?_ | with_reducible refine g_v10 ?_ | with_reducible refine s_u10 ?_ | with_reducible refine e_v11 ?_ | with_reducible refine g_v11 ?_ | with_reducible refine s_u11 ?_ | with_reducible refine e_v12 ?_ | with_reducible refine g_v12 ?_ | with_reducible refine s_u12 ?_ | with_reducible refine e_v13 ?_ | with_reducible refine g_v13 ?_ | with_reducible refine s_u13 ?_ | with_reducible refine e_v14 ?_ | with_reducible refine g_v14 ?_ | with_reducible refine s_u14 ?_ | with_reducible refine e_v15 ?_ | with_reducible refine g_v15 ?_ | with_reducible refine s_u15 ?_ | with_reducible refine e_v16 ?_ | with_reducible refine g_v16 ?_ | with_reducible refine s_u16 ?_ | with_reducible refine e_v17 ?_ | with_reducible refine g_v17 ?_ | with_reducible refine s_u17 ?_ | with_reducible refine e_v18 ?_ | with_reducible refine g_v18 ?_ | with_reducible refine s_u18 ?_ | with_reducible refine e_v19 ?_ | with_reducible refine g_v19 ?_ | with_reducible refine s_u19 ?_ | ((with_reducible refine e_lc' (ρ' := ?rr) ?hw ?_); (case hw => (dsimp only [wipeW, List.map, List.set]; exact rfl))) | ((with_reducible refine g_tup ?hl ?_); (case hl => exact rfl)) | with_reducible refine b_mod (by first | decide | omega) ?_ | ((with_reducible refine b_pow (pow_ok (by decide) (by decide) (by decide)) ?_); simp only [Int.reduceToNat, Int.reducePow]) | with_reducible refine le_and (by simp only [List.length_cons, List.length_nil]; decide) ?_ | with_reducible refine l_intB ?_ | with_reducible refine l_intI ?_ | with_reducible refine sl_f ?_ | (refine l_len (by exact rfl) (q := ?_); skip) | (refine l_list (by exact rfl) ?_; skip) | (refine ix_t (by exact rfl) ?_; skip))

theorem b_tup {xs ys : List W} {S : Sto} {Q : WK} {live : Bool} (h0 : xs ≠ []) (hl : xs.length + ys.length ≤ sizeLine) (h : Q (.tup (xs ++ ys)) S) : bopW live .add (.tup xs) (.tup ys) S Q := ⟨h0, hl, h⟩
theorem ok14 : ∀ ws S Q X, Phi 14 ws S Q X → wps Phi c14 (startW N14 ws) S (dEnds Q XN) := by
  rintro ws S Q X ⟨ns, a, k, one, b, rfl, hn, ⟨ha, h0, h9⟩, q⟩
  unfold c14
  show wps Phi _ [some (LA.iL ns), some (.ref a), some (.int one), some (.int b), none, none, none] S (dEnds Q XN)
  repeat' contradiction
  refine mk_t fun p hp => ?_
  have hpa : p ≠ a := ne_new ha hp
  have hal : ∀ {x o}, (sup (putC S a x) p o) a = some (.lst [.int x]) := fun {x o} => by rw [sup_ne hpa.symm]; exact sup_same
  have ha0 : (sup S p (.lst [])) a = some (.lst [.int k]) := by rw [sup_ne hpa.symm]; exact ha
  repeat' contradiction
  rw [p9]
  refine u_drawn hn ha0 (by omega) (by omega) (sup_comm hpa) fun v v0 v1 => ?_
  repeat' contradiction
  refine rg1 (by omega) ?_
  refine for_rng (fun i ρ S' => ∃ (arcs : List Arc) (k' : Int) (r5 r6 : Option W), ρ = [some (LA.iL ns), some (.ref a), some (.int one), some (.int b), some (.ref p), r5, r6] ∧ S' = sup (putC S a k') p (.lst (arcs.map arcW)) ∧ Two one b arcs ∧ arcs.length = i ∧ (∀ x ∈ arcs, 0 ≤ x.2.2.1 ∧ x.2.2.1 ≤ 10 ^ 31 ∧ -1000 ≤ x.2.2.2 ∧ x.2.2.2 ≤ 1000) ∧ k ≤ k' ∧ k' ≤ k + 1 + 3 * i)
    ⟨[], k + 1, _, _, rfl, rfl, fun x h => (by cases h), rfl, fun x h => (by cases h), by omega, by omega⟩ (fun _ _ _ _ => trivial) (fun i ρ S' hi h K hK => ?_) (fun ρ S' h => ?_)
  · obtain ⟨arcs, k', r5, r6, rfl, rfl, ht, hl, hr, hk, hk2⟩ := h
    repeat' contradiction
    rw [p9]
    refine u_drawn hn hal (by omega) (by omega) (sup_swap hpa) fun d d0 d1 => ?_
    repeat' contradiction
    obtain ⟨x, y, hxy, hxy2⟩ : ∃ x y : Int, atI [W.tup [.int one, .int b], W.tup [.int b, .int one]] (d % 2) = some (.tup [.int x, .int y]) ∧ ((x = one ∧ y = b) ∨ (x = b ∧ y = one)) := by
      rcases (show d % 2 = 0 ∨ d % 2 = 1 by omega) with e | e <;> rw [e]
      · exact ⟨one, b, rfl, .inl ⟨rfl, rfl⟩⟩
      · exact ⟨b, one, rfl, .inr ⟨rfl, rfl⟩⟩
    refine ix_l hxy ?_
    repeat' contradiction
    refine m_rcv rfl sup_same ?_
    repeat' contradiction
    rw [p10]
    refine u_room hn hal (by omega) (by omega) (sup_swap hpa) fun rm rm0 rm1 => ?_
    repeat' contradiction
    rw [p11]
    refine u_worth hn hal (by omega) (by omega) (sup_swap hpa) fun w w0 w1 => ?_
    repeat' contradiction
    refine b_tup (by simp) (le_line (by simp)) ?_
    repeat' contradiction
    refine m_app sup_same (lt_line (by rw [List.length_map]; omega)) ?_
    rw [sup_sup]
    repeat' contradiction
    refine hK _ _ ⟨arcs ++ [(x, y, rm, w)], k' + 1 + 1 + 1, _, _, rfl, ?_, ?_, ?_, ?_, by omega, by omega⟩
    · rw [List.map_append]; rfl
    · intro z hz
      rcases List.mem_append.mp hz with hz | hz
      · exact ht z hz
      · cases List.mem_singleton.mp hz; exact hxy2
    · rw [List.length_append, hl]; rfl
    · intro z hz
      rcases List.mem_append.mp hz with hz | hz
      · exact hr z hz
      · cases List.mem_singleton.mp hz; exact ⟨rm0, rm1, w0, w1⟩
  · obtain ⟨arcs, k', r5, r6, rfl, rfl, ht, hl, hr, hk, hk2⟩ := h
    repeat' contradiction
    refine s_gf4 sup_same ?_
    rw [sdel_sup (sup_none hpa hp)]
    repeat' contradiction
    exact d_same (q arcs k' ht ⟨hr, by omega⟩ (by omega) hk (by omega))
/-! ### order -/
theorem erase_perm {α : Type} : ∀ {l : List α} {i : Nat} {x : α}, l[i]? = some x → (x :: l.eraseIdx i).Perm l
  | [], i, x, h => by simp at h
  | y :: ys, 0, x, h => by cases h; exact .refl _
  | y :: ys, i + 1, x, h => by
    have := erase_perm (l := ys) (i := i) (x := x) (by simpa using h)
    exact (List.Perm.swap y x _).trans (List.Perm.cons y this)
theorem map_erase {α β : Type} (f : α → β) : ∀ (l : List α) (j : Nat), (l.eraseIdx j).map f = (l.map f).eraseIdx j
  | [], _ => rfl
  | x :: xs, 0 => rfl
  | x :: xs, j + 1 => by
    show f x :: (xs.eraseIdx j).map f = f x :: (xs.map f).eraseIdx j
    rw [map_erase f xs j]
theorem ok17 : ∀ ws S Q X, Phi 17 ws S Q X → wps Phi c17 (startW N17 ws) S (dEnds Q XN) := by
  rintro ws S Q X ⟨ns, a, k, n, rfl, hn, ⟨ha, h0, h9⟩, n1, n2, q⟩
  unfold c17
  show wps Phi _ [some (LA.iL ns), some (.ref a), some (.int n), none, none] S (dEnds Q XN)
  repeat' contradiction
  refine ⟨by omega, by omega, mk_t fun p hp => ?_⟩
  rw [Int.toNat_natCast, rngW_Z]
  have hpa : p ≠ a := ne_new ha hp
  repeat' contradiction
  refine mk_t fun f hf => ?_
  have hfp : f ≠ p := ne_new sup_same hf
  have hf0 : S f = none := by rw [sup_ne hfp] at hf; exact hf
  have hfa : f ≠ a := ne_new ha hf0
  repeat' contradiction
  refine s_whl (fun m ρ S' => ∃ (left found : List Int) (k' : Int), ρ = [some (LA.iL ns), some (.ref a), some (.int n), some (.ref p), some (.ref f)] ∧ S' = sup (sup (putC S a k') p (iO left)) f (iO found) ∧ (found ++ left).Perm (rngZ n) ∧ m = left.length ∧ k ≤ k' ∧ k' + left.length ≤ k + n) n
    ⟨rngZ n, [], k, rfl, by rw [show putC S a k = S from sup_id ha]; rfl, .refl _, by unfold rngZ; rw [List.length_map, List.length_range], by omega, by unfold rngZ; rw [List.length_map, List.length_range]; omega⟩ fun m ρ S' h => ?_
  obtain ⟨left, found, k', rfl, rfl, hperm, rfl, hk, hk2⟩ := h
  have hlen : found.length + left.length = n := by
    have := hperm.length_eq
    rw [List.length_append] at this
    unfold rngZ at this
    rw [List.length_map, List.length_range] at this
    exact this
  have hp' : ∀ {x : Int} {o o' : Ob}, (sup (sup (putC S a x) p o) f o') p = some o := by intro x o o'; rw [sup_ne hfp.symm]; exact sup_same
  have ha' : ∀ {x : Int} {o o' : Ob}, (sup (sup (putC S a x) p o) f o') a = some (.lst [.int x]) := by intro x o o'; rw [sup_ne hfa.symm, sup_ne hpa.symm]; exact sup_same
  repeat' contradiction
  refine ne_r hp' (HRn.pln_ints _) (.lst 0 [] fun _ h => by cases h) fun b hb => ?_
  cases left with
  | nil =>
    rw [b_f hb (fun h => h rfl)]
    refine iteF ?_
    repeat' contradiction
    refine s_gf4 sup_same ?_
    repeat' contradiction
    rw [List.append_nil] at hperm
    refine d_ret (fun c o hc => ?_) (q found k' (by simpa using hlen) (hperm.nodup_iff.mpr ?_) (fun x hx => rng_mem.mp (hperm.mem_iff.mp hx)) hk (by simp at hk2; omega))
    · have hcp : c ≠ p := fun e => by rw [e] at hc; rw [show putC S a k' p = S p from sup_ne hpa, hp] at hc; cases hc
      have hcf : c ≠ f := fun e => by rw [e] at hc; rw [show putC S a k' f = S f from sup_ne hfa, hf0] at hc; cases hc
      rw [sdel_ne hcf, sup_ne hcf, sup_ne hcp]; exact hc
    · unfold rngZ
      refine List.Pairwise.map _ (fun x y h => ?_) List.nodup_range
      intro e; exact h (by omega)
  | cons x xs =>
    rw [b_t hb (by simp)]
    refine iteT ?_
    repeat' contradiction
    refine m_rcv rfl sup_same ?_
    repeat' contradiction
    refine m_rcv rfl hp' ?_
    repeat' contradiction
    rw [p9]
    have esw : ∀ {z z' : Int} {o o' : Ob}, putC (sup (sup (putC S a z) p o) f o') a z' = sup (sup (putC S a z') p o) f o' := by
      intro z z' o o'
      show sup (sup (sup (sup S a _) p o) f o') a _ = _
      rw [sup_comm hfa, sup_swap hpa]
    simp only [List.length_cons] at hk2 hlen
    refine u_drawn hn ha' (by omega) (by omega) esw fun v v0 v1 => ?_
    repeat' contradiction
    refine l_len (rdq_c hp') (q := ?_)
    rw [List.length_map]
    refine b_mod (by rw [List.length_cons]; omega) ?_
    repeat' contradiction
    have hm0 := Int.emod_nonneg v (show (((x :: xs).length : Nat) : Int) ≠ 0 by rw [List.length_cons]; omega)
    have hm1 := Int.emod_lt_of_pos v (show 0 < (((x :: xs).length : Nat) : Int) by rw [List.length_cons]; omega)
    generalize v % (((x :: xs).length : Nat) : Int) = i at hm0 hm1 ⊢
    obtain ⟨y, hy⟩ : ∃ y, (x :: xs)[i.toNat]? = some y := ⟨_, List.getElem?_eq_getElem (by omega)⟩
    refine ⟨_, i.toNat, .int y, hp', by omega, by rw [List.length_cons] at hm1; omega, ?_, by rw [List.getElem?_map, hy]; rfl, ?_⟩
    · rw [List.length_map]
      generalize (x :: xs).length = len at hm1
      show (if (decide (0 ≤ (if i < 0 then i + (len : Int) else i)) && decide ((if i < 0 then i + (len : Int) else i) < (len : Int))) = true then some (if i < 0 then i + (len : Int) else i).toNat else none) = _
      rw [if_neg (show ¬ i < 0 by omega), if_pos (by simp; omega)]
    have e1 : ∀ {z : Int} {o o' u : Ob}, sup (sup (sup (putC S a z) p o) f o') p u = sup (sup (putC S a z) p u) f o' := by
      intro z o o' u
      rw [sup_comm hfp, sup_sup]
    rw [e1]
    repeat' contradiction
    refine m_app sup_same (lt_line (by rw [List.length_map]; omega)) ?_
    rw [sup_sup]
    repeat' contradiction
    have hpe := erase_perm hy
    refine ⟨((x :: xs).eraseIdx i.toNat).length, ?_, (x :: xs).eraseIdx i.toNat, found ++ [y], k' + 1, rfl, ?_, ?_, rfl, by omega, ?_⟩
    · have := hpe.length_eq; rw [List.length_cons] at this; omega
    · unfold iO
      rw [List.map_append, map_erase]
      rfl
    · refine List.Perm.trans ?_ hperm
      rw [List.append_assoc]
      exact List.Perm.append_left _ hpe
    · have := hpe.length_eq; rw [List.length_cons, List.length_cons] at this; omega
end K05

set_option Elab.async false
set_option linter.all false
set_option maxRecDepth 100000
set_option maxHeartbeats 4000000
namespace K05
open PySem PySem.Spec PyProof.Rows L2 MP Circ LA HRc HRn
local macro_rules
  | `(tactic| contradiction) => `(tactic| first | with_reducible refine d_in ?_ | with_reducible refine s_nil ?_ | with_reducible refine s_seq ?_ | with_reducible refine s_asg ?_ | with_reducible refine s_par ?_ | with_reducible refine s_expr ?_ | with_reducible refine s_ret ?_ | with_reducible refine s_retN ?_ | with_reducible refine s_iff ?_ | with_reducible refine s_fr ?_ | with_reducible refine s_cont ?_ | with_reducible refine s_brk ?_ | with_reducible refine s_pass ?_ | with_reducible refine s_augS ?_ | with_reducible refine e_int ?_ | with_reducible refine e_str ?_ | with_reducible refine e_bool ?_ | with_reducible refine e_none ?_ | with_reducible refine e_bin ?_ | with_reducible refine e_neg ?_ | with_reducible refine e_nt ?_ | with_reducible refine e_cmp ?_ | with_reducible refine e_chain ?_ | with_reducible refine e_an ?_ | with_reducible refine e_or ?_ | with_reducible refine an_1 ?_ | with_reducible refine an_2 ?_ | with_reducible refine or_1 ?_ | with_reducible refine or_2 ?_ | with_reducible refine e_ife ?_ | with_reducible refine e_call ?_ | with_reducible refine e_blt ?_ | with_reducible refine e_mth ?_ | with_reducible refine e_idx ?_ | with_reducible refine e_slc ?_ | with_reducible refine e_rev ?_ | with_reducible refine e_tup ?_ | with_reducible refine e_lst ?_ | with_reducible refine e_dnew ?_ | with_reducible refine e_dct ?_ | with_reducible refine e_isi ?_ | with_reducible refine e_lrg ?_ | with_reducible refine es_n ?_ | with_reducible refine es_c ?_ | with_reducible refine o_nil ?_ | with_reducible refine o_var ?_ | with_reducible refine o_cst ?_ | with_reducible refine o_bin ?_ | with_reducible refine o_neg ?_ | with_reducible refine o_blt ?_ | with_reducible refine o_call ?_ | with_reducible refine ik ?_ | with_reducible refine ng ?_ | with_reducible refine tq_bl ?_ | with_reducible refine tq_int ?_ | with_reducible refine tq_non ?_ | with_reducible refine tq_lst ?_ | with_reducible refine tq_tup ?_ | with_reducible refine t_var ?_ | with_reducible refine t_call ?_ | with_reducible refine t_blt ?_ | with_reducible refine t_mth ?_ | with_reducible refine t_idx ?_ | with_reducible refine t_isi ?_ | with_reducible refine t_cst ?_ | with_reducible refine t_nt ?_ | with_reducible refine t_cmp ?_ | with_reducible refine t_chain ?_ | with_reducible refine t_an ?_ | with_reducible refine t_or ?_ | with_reducible refine ant_1 ?_ | with_reducible refine ant_2 ?_ | with_reducible refine ort_1 ?_ | with_reducible refine ort_2 ?_ | with_reducible refine tr_bl ?_ | with_reducible refine tr_int ?_ | with_reducible refine tr_lst ?_ | with_reducible refine tr_non ?_ | with_reducible refine c_nil ?_ | with_reducible refine c_one ?_ | with_reducible refine g_sub ?_ | with_reducible refine gs_n ?_ | with_reducible refine gs_c ?_ | with_reducible refine i_seq ?_ | with_reducible refine i_rng1 ?_ | with_reducible refine i_rng2 ?_ | with_reducible refine i_rng3 ?_ | with_reducible refine i_zip ?_ | with_reducible refine i_enm ?_ | with_reducible refine b_add ?_ | with_reducible refine b_sub ?_ | with_reducible refine c_lt ?_ | with_reducible refine c_le ?_ | with_reducible refine c_gt ?_ | with_reducible refine c_ge ?_ | with_reducible refine mk_f ?_ | with_reducible refine ref_and ?_ | with_reducible refine u_set ?_ | with_reducible refine eq_i ?_ | with_reducible refine ne_i ?_ | with_reducible refine eq_b ?_ | with_reducible refine ne_b ?_ | with_reducible refine is_b ?_ | with_reducible refine isn_b ?_ | with_reducible refine is_n ?_ | with_reducible refine isn_n ?_ | with_reducible refine e_v0 ?_ | with_reducible refine g_v0 ?_ | with_reducible refine s_u0 ?_ | with_reducible refine e_v1 ?_ | with_reducible refine g_v1 ?_ | with_reducible refine s_u1 ?_ | with_reducible refine e_v2 ?_ | with_reducible refine g_v2 ?_ | with_reducible refine s_u2 ?_ | with_reducible refine e_v3 ?_ | with_reducible refine g_v3 ?_ | with_reducible refine s_u3 ?_ | with_reducible refine e_v4 ?_ | with_reducible refine g_v4 ?_ | with_reducible refine s_u4 ?_ | with_reducible refine e_v5 ?_ | with_reducible refine g_v5 ?_ | with_reducible refine s_u5 ?_ | with_reducible refine e_v6 ?_ | with_reducible refine g_v6 ?_ | with_reducible refine s_u6 ?_ | with_reducible refine e_v7 ?_ | with_reducible refine g_v7 ?_ | with_reducible refine s_u7 ?_ | with_reducible refine e_v8 ?_ | with_reducible refine g_v8 ?_ | with_reducible refine s_u8 ?_ | with_reducible refine e_v9 ?_ | with_reducible refine g_v9 ?_ | with_reducible refine s_u9 ?_ | with_reducible refine e_v10 ?_ | with_reducible refine g_v10 ?_ | with_reducible refine s_u10 ?_ | with_reducible refine e_v11 ?_ | with_reducible refine g_v11 ?_ | with_reducible refine s_u11 ?_ | with_reducible refine e_v12 ?_ | with_reducible refine g_v12 ?_ | with_reducible refine s_u12 ?_ | with_reducible refine e_v13 ?_ | with_reducible refine g_v13 ?_ | with_reducible refine s_u13 ?_ | with_reducible refine e_v14 ?_ | with_reducible refine g_v14 ?_ | with_reducible refine s_u14 ?_ | with_reducible refine e_v15 ?_ | with_reducible refine g_v15 ?_ | with_reducible refine s_u15 ?_ | with_reducible refine e_v16 ?_ | with_reducible refine g_v16 ?_ | with_reducible refine s_u16 ?_ | with_reducible refine e_v17 ?_ | with_reducible refine g_v17 ?_ | with_reducible refine s_u17 ?_ | with_reducible refine e_v18 ?_ | with_reducible refine g_v18 ?_ | with_reducible refine s_u18 ?_ | with_reducible refine e_v19 ?_ | with_reducible refine g_v19 ?_ | with_reducible refine s_u19 ?_ | ((with_reducible refine e_lc' (ρ' := ?rr) ?hw ?_); (case hw => (dsimp only [wipeW, List.map, List.set]; exact rfl))) | ((with_reducible refine g_tup ?hl ?_); (case hl => exact rfl)) | with_reducible refine b_mod (by first | decide | omega) ?_ | ((with_reducible refine b_pow (pow_ok (by decide) (by decide) (by decide)) ?_); simp only [Int.reduceToNat, Int.reducePow]) | with_reducible refine le_and (by simp only [List.length_cons, List.length_nil]; decide) ?_ | with_reducible refine l_intB ?_ | with_reducible refine l_intI ?_ | with_reducible refine sl_f ?_ | (refine l_len (by exact rfl) (q := ?_); skip) | (refine l_list (by exact rfl) ?_; skip) | (refine ix_t (by exact rfl) ?_; skip))

abbrev keyO (t : Int × Int) : Ob := .lst [.int t.1, .int t.2]
abbrev Zs := List (Addr × (Int × Int))
def At (S : Sto) (zs : Zs) : Prop := ∀ z ∈ zs, S z.1 = some (keyO z.2)
abbrev refsW (zs : Zs) : List W := zs.map fun z => W.ref z.1
abbrev keys (zs : Zs) : List (Int × Int) := zs.map (·.2)
abbrev addrs (zs : Zs) : List Addr := zs.map (·.1)
theorem refs_app {a b : Zs} : refsW (a ++ b) = refsW a ++ refsW b := List.map_append
theorem keys_app {a b : Zs} : keys (a ++ b) = keys a ++ keys b := List.map_append
theorem addrs_app {a b : Zs} : addrs (a ++ b) = addrs a ++ addrs b := List.map_append
theorem lc_keys {src : Sto → Prop} {g : W → MP.Env → Sto → (MP.Env → Sto → Prop) → Prop} {t : MP.Env → Sto → (Bool → Sto → Prop) → Prop} {e : WE} {ρ : MP.Env} {S : Sto} {Q : List W → Sto → Prop} {arcs : List Arc} (pr : Arc → Bool) (hs : ∀ S', src S') (hl : arcs.length ≤ 200)
    (step : ∀ x ∈ arcs, ∀ (S : Sto) (K : WK) (K2 : Sto → Prop), (pr x = true → ∀ r, S r = none → K (.ref r) (sup S r (keyO (keyA x)))) → (pr x = false → K2 S) → g (arcW x) ρ S fun ρ1 S1 => t ρ1 S1 fun b S2 => if b = true then e ρ1 S2 K XN else K2 S2)
    (hd : ∀ (zs : Zs) S', At S' zs → keys zs = (arcs.filter pr).map keyA → (addrs zs).Nodup → (∀ r ∈ addrs zs, S r = none) → Fewer S S' → Q (refsW zs) S') : wpLc src g t (fun ρ1 S2 Q1 => e ρ1 S2 Q1 XN) ρ (arcs.map arcW) [] S Q := by
  refine lc_inv (fun i acc S' => ∃ zs : Zs, acc = refsW zs ∧ At S' zs ∧ keys zs = ((arcs.take i).filter pr).map keyA ∧ (addrs zs).Nodup ∧ (∀ r ∈ addrs zs, S r = none) ∧ Fewer S S')
    ⟨[], rfl, fun z h => (by cases h), rfl, List.nodup_nil, fun z h => (by cases h), fewer_rfl⟩ (fun _ _ S' _ => hs S') (fun i w acc S' hw h K hK => ?_) (fun acc S' h => ?_)
  · obtain ⟨zs, rfl, h1, h2, h3, h4, h5⟩ := h
    rw [List.getElem?_map] at hw
    cases ex : arcs[i]? with
    | none => rw [ex] at hw; cases hw
    | some x =>
      rw [ex] at hw
      cases hw
      have hi := (List.getElem?_eq_some_iff.mp ex).1
      have hzl : zs.length ≤ 200 := by
        have := congrArg List.length h2
        rw [List.length_map, List.length_map] at this
        have h6 := List.length_filter_le pr (arcs.take i)
        rw [List.length_take] at h6
        omega
      refine step x (List.mem_of_getElem? ex) S' (fun y S3 => (refsW zs).length < sizeLine ∧ K (refsW zs ++ [y]) S3) (fun S2 => K (refsW zs) S2) (fun hp r hr => ⟨lt_line (by rw [List.length_map]; omega), hK _ _ ⟨zs ++ [(r, keyA x)], by rw [refs_app]; rfl, ?_, ?_, ?_, ?_, ?_⟩⟩) (fun hp => hK _ _ ⟨zs, rfl, h1, ?_, h3, h4, h5⟩)
      · intro z hz
        rcases List.mem_append.mp hz with hz | hz
        · rw [sup_ne (fun e => by have := h1 z hz; rw [e, hr] at this; cases this)]
          exact h1 z hz
        · cases List.mem_singleton.mp hz
          exact sup_same
      · rw [keys_app, h2, List.take_add_one, ex, List.filter_append, List.map_append]
        simp [hp]
      · rw [addrs_app, List.nodup_append]
        refine ⟨h3, by simp, fun a ha b hb => ?_⟩
        cases List.mem_singleton.mp hb
        intro e
        obtain ⟨z, hz, e2⟩ := List.mem_map.mp ha
        have := h1 z hz
        rw [e2, e, hr] at this; cases this
      · intro z hz
        rw [addrs_app] at hz
        rcases List.mem_append.mp hz with hz | hz
        · exact h4 z hz
        · cases List.mem_singleton.mp hz
          cases eS : S r with
          | none => rfl
          | some o => have := h5 r o eS; rw [hr] at this; cases this
      · intro a o ha
        rw [sup_ne (fun e => by have := h5 a o ha; rw [e, hr] at this; cases this)]
        exact h5 a o ha
      · rw [h2, List.take_add_one, ex, List.filter_append, List.map_append]
        simp [hp]
  · obtain ⟨zs, rfl, h1, h2, h3, h4, h5⟩ := h
    rw [List.length_map, List.take_length] at h2
    exact hd zs S' h1 h2 h3 h4 h5
abbrev dat2 (t : Int × Int) : PyData := .list ([t.1, t.2].map .int)
theorem vw_key {S : Sto} {z : Addr × (Int × Int)} (h : S z.1 = some (keyO z.2)) : Vw S (.ref z.1) (dat2 z.2) := .ref (by rw [h]; rfl) (.cons (.int _) (.cons (.int _) .nil))
theorem vws_key {S : Sto} : ∀ {zs : Zs}, At S zs → VwL S (refsW zs) (zs.map fun z => dat2 z.2)
  | [], _ => .nil
  | z :: zs, h => .cons (vw_key (h z (by simp))) (vws_key fun y hy => h y (by simp [hy]))
theorem zip_maps {α β γ : Type} (f : α → β) (g : α → γ) : ∀ l : List α, (l.map f).zip (l.map g) = l.map fun x => (f x, g x)
  | [] => rfl
  | x :: xs => by rw [List.map_cons, List.map_cons, List.zip_cons_cons, zip_maps f g xs]; rfl
def leZ (z y : Addr × (Int × Int)) : Bool := decide ([z.2.1, z.2.2] ≤ [y.2.1, y.2.2])
theorem dLe_keys (z y : Addr × (Int × Int)) : leZ z y = dLe (.ref z.1, dat2 z.2) (.ref y.1, dat2 y.2) := by
  have := congrFun (congrFun (PySem.W.dataLe_rows (fun z : Addr × (Int × Int) => [z.2.1, z.2.2])) z) y
  exact this.symm
theorem leZ_key {z y : Addr × (Int × Int)} (h : leZ z y = true) : z.2.1 ≤ y.2.1 := by
  have h := of_decide_eq_true h
  rw [List.cons_le_cons_iff] at h
  rcases h with h | ⟨h, _⟩ <;> omega
theorem can_keys : ∀ zs : Zs, PyData.canLayAll0 (zs.map fun z => dat2 z.2) = true
  | [] => rfl
  | z :: zs => can_keys zs
theorem dep_keys : ∀ zs : Zs, PyData.depthAll (zs.map fun z => dat2 z.2) ≤ 1
  | [] => by decide
  | z :: zs => by
    have := dep_keys zs
    show max (dat2 z.2).depth (PyData.depthAll (zs.map fun z => dat2 z.2)) ≤ 1
    have h : (dat2 z.2).depth = 1 := rfl
    omega
theorem sort_keys {zs : Zs} {S : Sto} {Q : WK} (h : At S zs) (q : ∀ ys : Zs, ys.Perm zs → ((keys ys).Pairwise fun a b => a.1 ≤ b.1) → Q (.lst (refsW ys)) S) : bltW false .sortD [.lst (refsW zs)] S Q := by
  refine ⟨_, _, rfl, vws_key h, ?_, .inr ?_, ?_, mk_f ?_⟩
  · intro x hx y hy
    obtain ⟨a, _, rfl⟩ := List.mem_map.mp hx
    obtain ⟨b, _, rfl⟩ := List.mem_map.mp hy
    rfl
  · intro x hx
    obtain ⟨a, _, rfl⟩ := List.mem_map.mp hx
    exact ⟨fun e => (by cases e), fun xs e => (by cases e)⟩
  · show (PyData.canLayAll0 (zs.map fun z => dat2 z.2) && decide (PyData.depthAll (zs.map fun z => dat2 z.2) + 1 ≤ 64)) = true
    have := dep_keys zs
    rw [can_keys, decide_eq_true (by omega)]; rfl
  · have e : sortW (refsW zs) (zs.map fun z => dat2 z.2) = refsW (zs.mergeSort leZ) := by
      unfold sortW
      rw [zip_maps, ← List.map_mergeSort (r := leZ) (f := fun z : Addr × (Int × Int) => (W.ref z.1, dat2 z.2)) (fun a _ b _ => dLe_keys a b), List.map_map]
      rfl
    rw [e]
    refine q _ (List.mergeSort_perm _ _) ?_
    rw [List.pairwise_map]
    refine List.Pairwise.imp (fun h => leZ_key h) (List.pairwise_mergeSort (fun a b c h1 h2 => ?_) (fun a b => ?_) zs)
    · have h1 := of_decide_eq_true h1
      have h2 := of_decide_eq_true h2
      exact decide_eq_true (List.le_trans h1 h2)
    · unfold leZ
      rcases List.le_total [a.2.1, a.2.2] [b.2.1, b.2.2] with h | h
      · rw [decide_eq_true h]; rfl
      · rw [decide_eq_true h, Bool.or_true]
theorem ne_refs {zs : Zs} {S : Sto} {Q : Bool → Prop} (h : At S zs) (q : Q (!zs.isEmpty)) : cmpW .NotEq (.lst (refsW zs)) (.lst []) S Q := by
  have hp : Pln 2 (.lst (zs.map fun z => W.lst [.int z.2.1, .int z.2.2])) := pln_map fun z _ => .lst 0 _ (by simp only [List.forall_mem_cons]; exact ⟨.int 0 _, .int 0 _, fun _ h => by cases h⟩)
  have ed : ∀ zs : Zs, datL (zs.map fun z => W.lst [.int z.2.1, .int z.2.2]) = zs.map fun z => dat2 z.2 := by
    intro zs
    induction zs with
    | nil => rfl
    | cons z zs ih =>
      show _ :: datL _ = _
      rw [ih]; rfl
  refine ne_vw (u := .lst (zs.map fun z => W.lst [.int z.2.1, .int z.2.2])) (w := .lst []) (.lst (by rw [ed]; exact vws_key h)) (.lst .nil) hp (.lst 0 [] fun _ h => by cases h) fun b hb => ?_
  have : b = !zs.isEmpty := by
    rw [Bool.eq_iff_iff, hb]
    cases zs <;> simp
  rw [this]; exact q
theorem ix_key {S : Sto} {z : Addr × (Int × Int)} {zs : Zs} {Q : WK} (q : Q (.ref z.1) S) : idxW (.lst (refsW (z :: zs))) (.int 0) S Q := ix_l (atI_int (by decide) rfl) q
theorem at_set {S : Sto} {zs : Zs} {r : Addr} {o : Ob} (h : At S zs) (hr : r ∉ addrs zs) : At (sup S r o) zs := fun z hz => by
  rw [sup_ne (fun e => hr (by rw [← e]; exact List.mem_map.mpr ⟨z, hz, rfl⟩))]
  exact h z hz
def cutZ (zs : Zs) (z : Addr × (Int × Int)) : Zs := if z.2.2 = 0 then zs else z :: zs
theorem cutZ_keys {zs : Zs} {z : Addr × (Int × Int)} : keys (cutZ zs z) = cutH (keys zs) z.2 := by
  unfold cutZ cutH
  by_cases c : z.2.2 = 0
  · rw [if_pos c, if_pos c]
  · rw [if_neg c, if_neg c]; rfl
theorem cutZ_mem {zs : Zs} {z y : Addr × (Int × Int)} (h : y ∈ cutZ zs z) : y = z ∨ y ∈ zs := by
  unfold cutZ at h
  split at h
  · exact .inr h
  · exact List.mem_cons.mp h
theorem cutZ_sub {zs : Zs} {z : Addr × (Int × Int)} : (addrs (cutZ zs z)).Sublist (z.1 :: addrs zs) := by
  unfold cutZ
  split
  · exact List.sublist_cons_self _ _
  · exact List.Sublist.refl _
theorem cutW_Z {zs : Zs} {t : Addr × (Int × Int)} {r : Int} {u : Int × Int} : cutW (refsW ((t.1, u) :: zs)) (some (if decide (r = 0) = true then 1 else 0)) none = refsW (cutZ zs (t.1, (t.2.1, r))) := by
  unfold cutZ
  by_cases c : r = 0
  · rw [if_pos c, decide_eq_true c, if_pos rfl]
    unfold cutW
    rw [sIx_nn (by decide)]
    show ((W.ref t.1 :: refsW zs).drop (min 1 (W.ref t.1 :: refsW zs).length)).take ((W.ref t.1 :: refsW zs).length - min 1 (W.ref t.1 :: refsW zs).length) = _
    rw [List.length_cons, show min 1 ((refsW zs).length + 1) = 1 by omega]
    show (refsW zs).take _ = _
    rw [Nat.add_sub_cancel, List.take_length]
  · rw [if_neg c, decide_eq_false c, if_neg (by decide)]
    unfold cutW
    rw [sIx_nn (by decide)]
    show ((W.ref t.1 :: refsW zs).drop (min 0 (W.ref t.1 :: refsW zs).length)).take ((W.ref t.1 :: refsW zs).length - min 0 (W.ref t.1 :: refsW zs).length) = _
    rw [Nat.zero_min, Nat.sub_zero, List.drop_zero, List.take_length]
    rfl
theorem ok15 : ∀ ws S Q X, Phi 15 ws S Q X → wps Phi c15 (startW N15 ws) S (dEnds Q XN) := by
  rintro ws S Q X ⟨arcs, one, rfl, ⟨hb, hl⟩, q⟩
  unfold c15
  show wps Phi _ [some (aL arcs), some (.int one), none, none, none, none, none] S (dEnds Q XN)
  repeat' contradiction
  refine ⟨_, rfl, ?_⟩
  refine lc_keys (fun x => decide (x.1 = one)) (fun _ => rfl) hl (fun x hx S K K2 h1 h2 => ?_) fun zT S1 aT kT nT fT wT => ?_
  · repeat' contradiction
    refine ite_d (fun c => ?_) (fun c => h2 (decide_eq_false c))
    repeat' contradiction
    exact mk_t fun r hr => h1 (decide_eq_true c) r hr
  repeat' contradiction
  refine sort_keys aT fun yT pT sT => ?_
  repeat' contradiction
  refine ⟨_, rfl, ?_⟩
  refine lc_keys (fun x => decide (x.1 ≠ one)) (fun _ => rfl) hl (fun x hx S K K2 h1 h2 => ?_) fun zB S2 aB kB nB fB wB => ?_
  · repeat' contradiction
    refine ite_d (fun c => ?_) (fun c => h2 (decide_eq_false c))
    repeat' contradiction
    exact mk_t fun r hr => h1 (decide_eq_true c) r hr
  repeat' contradiction
  refine sort_keys aB fun yB pB sB => ?_
  have kpT : (keys yT).Perm (thereA one arcs) := by
    have := pT.map (·.2)
    rw [show zT.map (·.2) = (arcs.filter fun x => decide (x.1 = one)).map keyA from kT] at this
    exact this
  have kpB : (keys yB).Perm (backsA one arcs) := by
    have := pB.map (·.2)
    rw [show zB.map (·.2) = (arcs.filter fun x => decide (x.1 ≠ one)).map keyA from kB] at this
    exact this
  have hbT : ∀ t ∈ keys yT, 0 ≤ t.2 ∧ t.2 ≤ 10 ^ 31 ∧ -1000 ≤ t.1 ∧ t.1 ≤ 1000 := fun t ht => by
    obtain ⟨x, hx, rfl⟩ := List.mem_map.mp (kpT.mem_iff.mp ht)
    have := hb x (List.mem_filter.mp hx).1
    show 0 ≤ x.2.2.1 ∧ x.2.2.1 ≤ 10 ^ 31 ∧ -1000 ≤ 0 - x.2.2.2 ∧ 0 - x.2.2.2 ≤ 1000
    omega
  have hbB : ∀ t ∈ keys yB, 0 ≤ t.2 ∧ t.2 ≤ 10 ^ 31 ∧ -1000 ≤ t.1 ∧ t.1 ≤ 1000 := fun t ht => by
    obtain ⟨x, hx, rfl⟩ := List.mem_map.mp (kpB.mem_iff.mp ht)
    have := hb x (List.mem_filter.mp hx).1
    show 0 ≤ x.2.2.1 ∧ x.2.2.1 ≤ 10 ^ 31 ∧ -1000 ≤ 0 - x.2.2.2 ∧ 0 - x.2.2.2 ≤ 1000
    omega
  have aT2 : At S2 yT := fun z hz => wB _ _ (aT z (pT.mem_iff.mp hz))
  have aB2 : At S2 yB := fun z hz => aB z (pB.mem_iff.mp hz)
  have nd : (addrs yT ++ addrs yB).Nodup := by
    rw [List.nodup_append]
    refine ⟨(pT.map (·.1)).nodup_iff.mpr nT, (pB.map (·.1)).nodup_iff.mpr nB, fun a ha b hb e => ?_⟩
    have h1 := fB b ((pB.map (·.1)).mem_iff.mp hb)
    obtain ⟨z, hz, e2⟩ := List.mem_map.mp ha
    have := aT z (pT.mem_iff.mp hz)
    rw [e2, e, h1] at this; cases this
  have nof : ∀ r ∈ addrs yT ++ addrs yB, S r = none := fun r hr => by
    rcases List.mem_append.mp hr with hr | hr
    · exact fT r ((pT.map (·.1)).mem_iff.mp hr)
    · have := fB r ((pB.map (·.1)).mem_iff.mp hr)
      cases e : S r with
      | none => rfl
      | some o => rw [wT r o e] at this; cases this
  have few : Fewer S S2 := fun a o ha => wB a o (wT a o ha)
  have tot := q (keys yT) (keys yB) ((keys yT).length + (keys yB).length) kpT kpB sT sB (Nat.le_refl _)
  repeat' contradiction
  refine s_whl (fun m ρ S' => ∃ (uT uB : Zs) (found : Int) (r5 : Option W), ρ = [some (aL arcs), some (.int one), some (.lst (refsW uT)), some (.lst (refsW uB)), some (.int found), r5, none] ∧ At S' uT ∧ At S' uB ∧ (addrs uT ++ addrs uB).Nodup ∧ (∀ r ∈ addrs uT ++ addrs uB, S r = none) ∧ Fewer S S' ∧
      (∀ t ∈ keys uT, 0 ≤ t.2 ∧ t.2 ≤ 10 ^ 31 ∧ -1000 ≤ t.1 ∧ t.1 ≤ 1000) ∧ (∀ t ∈ keys uB, 0 ≤ t.2 ∧ t.2 ≤ 10 ^ 31 ∧ -1000 ≤ t.1 ∧ t.1 ≤ 1000) ∧ (keys uT).length + (keys uB).length ≤ m ∧ found + gre m (keys uT) (keys uB) = gre ((keys yT).length + (keys yB).length) (keys yT) (keys yB)) ((keys yT).length + (keys yB).length)
    ⟨yT, yB, 0, _, rfl, aT2, aB2, nd, nof, few, hbT, hbB, Nat.le_refl _, by omega⟩ fun m ρ S' h => ?_
  obtain ⟨uT, uB, found, r5, rfl, aT, aB, nd, nof, few, hbT, hbB, hm, htot⟩ := h
  have fin : (gre m (keys uT) (keys uB) = 0) → wps Phi ((CS.ret (CE.var 4)).seq CS.nil) [some (aL arcs), some (.int one), some (.lst (refsW uT)), some (.lst (refsW uB)), some (.int found), r5, none] S' ⟨dNx Q, dRt Q, dNo, dNo, dXc XN⟩ := fun h0 => by
    repeat' contradiction
    rw [h0] at htot
    rw [← htot, Int.add_zero] at tot
    exact d_ret few tot
  repeat' contradiction
  refine ne_refs aT ?_
  cases uT with
  | nil =>
    refine iteF ?_
    refine iteF ?_
    exact fin (by cases m <;> rfl)
  | cons t uT =>
    refine iteT ?_
    repeat' contradiction
    refine ne_refs aB ?_
    cases uB with
    | nil =>
      refine iteF ?_
      refine iteF ?_
      exact fin (by cases m <;> rfl)
    | cons b uB =>
      obtain ⟨m, rfl⟩ : ∃ m', m = m' + 1 := by
        cases m with
        | zero => simp at hm
        | succ m => exact ⟨m, rfl⟩
      have atT := aT t (by simp)
      have atB := aB b (by simp)
      have bt := hbT t.2 (by simp)
      have bb := hbB b.2 (by simp)
      have hne : t.1 ≠ b.1 := by
        intro e
        have := (List.nodup_append.mp nd).2.2 t.1 (by simp) b.1 (by simp)
        exact this e
      refine iteT ?_
      repeat' contradiction
      refine ix_key ?_
      repeat' contradiction
      refine ix_c atT rfl ?_
      repeat' contradiction
      refine ix_key ?_
      repeat' contradiction
      refine ix_c atB rfl ?_
      repeat' contradiction
      refine ite_d (fun c => ?_) (fun c => ?_)
      · repeat' contradiction
        refine ix_key ?_
        repeat' contradiction
        refine ix_c atT rfl ?_
        repeat' contradiction
        refine ix_key ?_
        repeat' contradiction
        refine ix_c atB rfl ?_
        repeat' contradiction
        refine l_min2 fun part hp => ?_
        repeat' contradiction
        refine ix_key ?_
        repeat' contradiction
        refine ix_c atT rfl ?_
        repeat' contradiction
        refine ix_key ?_
        repeat' contradiction
        refine ix_c atB rfl ?_
        repeat' contradiction
        refine b_mul (mul_ok (by omega) (by omega)) ?_
        repeat' contradiction
        refine ix_key ?_
        repeat' contradiction
        refine ix_c atT rfl ?_
        repeat' contradiction
        refine ix_key ?_
        repeat' contradiction
        refine st_l (j := 1) atT rfl ?_
        have atB2 : ∀ {o}, (sup S' t.1 o) b.1 = some (keyO b.2) := by intro o; rw [sup_ne hne.symm]; exact atB
        repeat' contradiction
        refine ix_key ?_
        repeat' contradiction
        refine ix_c atB2 rfl ?_
        repeat' contradiction
        refine ix_key ?_
        repeat' contradiction
        refine st_l (j := 1) atB2 rfl ?_
        have e1 : ([W.int t.2.1, .int t.2.2].set 1 (W.int (t.2.2 - part))) = [.int t.2.1, .int (t.2.2 - part)] := rfl
        have e2 : ([W.int b.2.1, .int b.2.2].set 1 (W.int (b.2.2 - part))) = [.int b.2.1, .int (b.2.2 - part)] := rfl
        rw [e1, e2]
        have hT3 : (sup (sup S' t.1 (keyO (t.2.1, t.2.2 - part))) b.1 (keyO (b.2.1, b.2.2 - part))) t.1 = some (keyO (t.2.1, t.2.2 - part)) := by rw [sup_ne hne]; exact sup_same
        have hB3 : (sup (sup S' t.1 (keyO (t.2.1, t.2.2 - part))) b.1 (keyO (b.2.1, b.2.2 - part))) b.1 = some (keyO (b.2.1, b.2.2 - part)) := sup_same
        repeat' contradiction
        refine ix_key ?_
        repeat' contradiction
        refine ix_c hT3 rfl ?_
        repeat' contradiction
        refine ix_key ?_
        repeat' contradiction
        refine ix_c hB3 rfl ?_
        repeat' contradiction
        have c1 := cutW_Z (zs := uT) (t := t) (r := t.2.2 - part) (u := t.2)
        have c2 := cutW_Z (zs := uB) (t := b) (r := b.2.2 - part) (u := b.2)
        dsimp only
        rw [show refsW (t :: uT) = refsW ((t.1, t.2) :: uT) from rfl, show refsW (b :: uB) = refsW ((b.1, b.2) :: uB) from rfl, c1, c2]
        obtain ⟨nd1, nd2, nd3⟩ := List.nodup_append.mp nd
        obtain ⟨ht1, _⟩ := List.nodup_cons.mp (show (t.1 :: addrs uT).Nodup from nd1)
        obtain ⟨hb1, _⟩ := List.nodup_cons.mp (show (b.1 :: addrs uB).Nodup from nd2)
        have htB : t.1 ∉ addrs uB := fun h => nd3 t.1 (by simp) t.1 (by simp only [List.map_cons, List.mem_cons]; exact .inr h) rfl
        have hbT2 : b.1 ∉ addrs uT := fun h => nd3 b.1 (by simp only [List.map_cons, List.mem_cons]; exact .inr h) b.1 (by simp) rfl
        have aT3 : At (sup (sup S' t.1 (keyO (t.2.1, t.2.2 - part))) b.1 (keyO (b.2.1, b.2.2 - part))) uT := at_set (at_set (fun z hz => aT z (by simp [hz])) ht1) hbT2
        have aB3 : At (sup (sup S' t.1 (keyO (t.2.1, t.2.2 - part))) b.1 (keyO (b.2.1, b.2.2 - part))) uB := at_set (at_set (fun z hz => aB z (by simp [hz])) htB) hb1
        have sub : (addrs (cutZ uT (t.1, (t.2.1, t.2.2 - part))) ++ addrs (cutZ uB (b.1, (b.2.1, b.2.2 - part)))).Sublist (addrs (t :: uT) ++ addrs (b :: uB)) := List.Sublist.append cutZ_sub cutZ_sub
        refine ⟨m, Nat.lt_succ_self _, cutZ uT (t.1, (t.2.1, t.2.2 - part)), cutZ uB (b.1, (b.2.1, b.2.2 - part)), _, _, rfl, fun z hz => ?_, fun z hz => ?_, nd.sublist sub, fun r hr => nof r (sub.subset hr), fun a o ha => ?_, ?_, ?_, ?_, ?_⟩
        · rcases cutZ_mem hz with rfl | hz
          · exact hT3
          · exact aT3 z hz
        · rcases cutZ_mem hz with rfl | hz
          · exact hB3
          · exact aB3 z hz
        · rw [sup_ne (fun e => ?_), sup_ne (fun e => ?_)]
          · exact few a o ha
          · rw [e, nof t.1 (by simp)] at ha; cases ha
          · rw [e, nof b.1 (by simp)] at ha; cases ha
        · rw [cutZ_keys]
          intro x hx
          rcases cut_mem hx with rfl | hx
          · show 0 ≤ t.2.2 - part ∧ t.2.2 - part ≤ 10 ^ 31 ∧ _ ≤ t.2.1 ∧ t.2.1 ≤ _
            omega
          · exact hbT x (by simp only [List.map_cons, List.mem_cons]; exact .inr hx)
        · rw [cutZ_keys]
          intro x hx
          rcases cut_mem hx with rfl | hx
          · show 0 ≤ b.2.2 - part ∧ b.2.2 - part ≤ 10 ^ 31 ∧ _ ≤ b.2.1 ∧ b.2.1 ≤ _
            omega
          · exact hbB x (by simp only [List.map_cons, List.mem_cons]; exact .inr hx)
        · rw [cutZ_keys, cutZ_keys]
          show (cutH (keys uT) (t.2.1, t.2.2 - part)).length + (cutH (keys uB) (b.2.1, b.2.2 - part)).length ≤ m
          have a1 := Circ.cut_len (t := (t.2.1, t.2.2 - part)) (T := keys uT)
          have a2 := Circ.cut_len (t := (b.2.1, b.2.2 - part)) (T := keys uB)
          have hm : (keys uT).length + 1 + ((keys uB).length + 1) ≤ m + 1 := hm
          rcases (show t.2.2 - part = 0 ∨ b.2.2 - part = 0 by omega) with e | e
          · have := a1.2 e; have := a2.1; omega
          · have := a2.2 e; have := a1.1; omega
        · rw [cutZ_keys, cutZ_keys, ← htot]
          show _ = found + gre (m + 1) (t.2 :: keys uT) (b.2 :: keys uB)
          rw [gre, if_pos c, ← hp]
          show found - part * (t.2.1 + b.2.1) + gre m (cutH (keys uT) (t.2.1, t.2.2 - part)) (cutH (keys uB) (b.2.1, b.2.2 - part)) = _
          omega
      · refine fin ?_
        show gre (m + 1) (t.2 :: keys uT) (b.2 :: keys uB) = 0
        rw [gre, if_neg c]
end K05

set_option Elab.async false
set_option linter.all false
set_option maxRecDepth 100000
set_option maxHeartbeats 4000000
namespace K05
open PySem PySem.Spec PyProof.Rows L2 MP Circ LA HRc HRn
local macro_rules
  | `(tactic| contradiction) => `(tactic| first | with_reducible refine d_in ?_ | with_reducible refine s_nil ?_ | with_reducible refine s_seq ?_ | with_reducible refine s_asg ?_ | with_reducible refine s_par ?_ | with_reducible refine s_expr ?_ | with_reducible refine s_ret ?_ | with_reducible refine s_retN ?_ | with_reducible refine s_iff ?_ | with_reducible refine s_fr ?_ | with_reducible refine s_cont ?_ | with_reducible refine s_brk ?_ | with_reducible refine s_pass ?_ | with_reducible refine s_augS ?_ | with_reducible refine e_int ?_ | with_reducible refine e_str ?_ | with_reducible refine e_bool ?_ | with_reducible refine e_none ?_ | with_reducible refine e_bin ?_ | with_reducible refine e_neg ?_ | with_reducible refine e_nt ?_ | with_reducible refine e_cmp ?_ | with_reducible refine e_chain ?_ | with_reducible refine e_an ?_ | with_reducible refine e_or ?_ | with_reducible refine an_1 ?_ | with_reducible refine an_2 ?_ | with_reducible refine or_1 ?_ | with_reducible refine or_2 ?_ | with_reducible refine e_ife ?_ | with_reducible refine e_call ?_ | with_reducible refine e_blt ?_ | with_reducible refine e_mth ?_ | with_reducible refine e_idx ?_ | with_reducible refine e_slc ?_ | with_reducible refine e_rev ?_ | with_reducible refine e_tup ?_ | with_reducible refine e_lst ?_ | with_reducible refine e_dnew ?_ | with_reducible refine e_dct ?_ | with_reducible refine e_isi ?_ | with_reducible refine e_lrg ?_ | with_reducible refine es_n ?_ | with_reducible refine es_c ?_ | with_reducible refine o_nil ?_ | with_reducible refine o_var ?_ | with_reducible refine o_cst ?_ | with_reducible refine o_bin ?_ | with_reducible refine o_neg ?_ | with_reducible refine o_blt ?_ | with_reducible refine o_call ?_ | with_reducible refine ik ?_ | with_reducible refine ng ?_ | with_reducible refine tq_bl ?_ | with_reducible refine tq_int ?_ | with_reducible refine tq_non ?_ | with_reducible refine tq_lst ?_ | with_reducible refine tq_tup ?_ | with_reducible refine t_var ?_ | with_reducible refine t_call ?_ | with_reducible refine t_blt ?_ | with_reducible refine t_mth ?_ | with_reducible refine t_idx ?_ | with_reducible refine t_isi ?_ | with_reducible refine t_cst ?_ | with_reducible refine t_nt ?_ | with_reducible refine t_cmp ?_ | with_reducible refine t_chain ?_ | with_reducible refine t_an ?_ | with_reducible refine t_or ?_ | with_reducible refine ant_1 ?_ | with_reducible refine ant_2 ?_ | with_reducible refine ort_1 ?_ | with_reducible refine ort_2 ?_ | with_reducible refine tr_bl ?_ | with_reducible refine tr_int ?_ | with_reducible refine tr_lst ?_ | with_reducible refine tr_non ?_ | with_reducible refine c_nil ?_ | with_reducible refine c_one ?_ | with_reducible refine g_sub ?_ | with_reducible refine gs_n ?_ | with_reducible refine gs_c ?_ | with_reducible refine i_seq ?_ | with_reducible refine i_rng1 ?_ | with_reducible refine i_rng2 ?_ | with_reducible refine i_rng3 ?_ | with_reducible refine i_zip ?_ | with_reducible refine i_enm ?_ | with_reducible refine b_add ?_ | with_reducible refine b_sub ?_ | with_reducible refine c_lt ?_ | with_reducible refine c_le ?_ | with_reducible refine c_gt ?_ | with_reducible refine c_ge ?_ | with_reducible refine mk_f ?_ | with_reducible refine ref_and ?_ | with_reducible refine u_set ?_ | with_reducible refine eq_i ?_ | with_reducible refine ne_i ?_ | with_reducible refine eq_b ?_ | with_reducible refine ne_b ?_ | with_reducible refine is_b ?_ | with_reducible refine isn_b ?_ | with_reducible refine is_n ?_ | with_reducible refine isn_n ?_ | with_reducible refine e_v0 ?_ | with_reducible refine g_v0 ?_ | with_reducible refine s_u0 ?_ | with_reducible refine e_v1 ?_ | with_reducible refine g_v1 ?_ | with_reducible refine s_u1 ?_ | with_reducible refine e_v2 ?_ | with_reducible refine g_v2 ?_ | with_reducible refine s_u2 ?_ | with_reducible refine e_v3 ?_ | with_reducible refine g_v3 ?_ | with_reducible refine s_u3 ?_ | with_reducible refine e_v4 ?_ | with_reducible refine g_v4 ?_ | with_reducible refine s_u4 ?_ | with_reducible refine e_v5 ?_ | with_reducible refine g_v5 ?_ | with_reducible refine s_u5 ?_ | with_reducible refine e_v6 ?_ | with_reducible refine g_v6 ?_ | with_reducible refine s_u6 ?_ | with_reducible refine e_v7 ?_ | with_reducible refine g_v7 ?_ | with_reducible refine s_u7 ?_ | with_reducible refine e_v8 ?_ | with_reducible refine g_v8 ?_ | with_reducible refine s_u8 ?_ | with_reducible refine e_v9 ?_ | with_reducible refine g_v9 ?_ | with_reducible refine s_u9 ?_ | with_reducible refine e_v10 ?_ | with_reducible refine g_v10 ?_ | with_reducible refine s_u10 ?_ | with_reducible refine e_v11 ?_ | with_reducible refine g_v11 ?_ | with_reducible refine s_u11 ?_ | with_reducible refine e_v12 ?_ | with_reducible refine g_v12 ?_ | with_reducible refine s_u12 ?_ | with_reducible refine e_v13 ?_ | with_reducible refine g_v13 ?_ | with_reducible refine s_u13 ?_ | with_reducible refine e_v14 ?_ | with_reducible refine g_v14 ?_ | with_reducible refine s_u14 ?_ | with_reducible refine e_v15 ?_ | with_reducible refine g_v15 ?_ | with_reducible refine s_u15 ?_ | with_reducible refine e_v16 ?_ | with_reducible refine g_v16 ?_ | with_reducible refine s_u16 ?_ | with_reducible refine e_v17 ?_ | with_reducible refine g_v17 ?_ | with_reducible refine s_u17 ?_ | with_reducible refine e_v18 ?_ | with_reducible refine g_v18 ?_ | with_reducible refine s_u18 ?_ | with_reducible refine e_v19 ?_ | with_reducible refine g_v19 ?_ | with_reducible refine s_u19 ?_ | ((with_reducible refine e_lc' (ρ' := ?rr) ?hw ?_); (case hw => (dsimp only [wipeW, List.map, List.set]; exact rfl))) | ((with_reducible refine g_tup ?hl ?_); (case hl => exact rfl)) | with_reducible refine b_mod (by first | decide | omega) ?_ | ((with_reducible refine b_pow (pow_ok (by decide) (by decide) (by decide)) ?_); simp only [Int.reduceToNat, Int.reducePow]) | with_reducible refine le_and (by simp only [List.length_cons, List.length_nil]; decide) ?_ | with_reducible refine l_intB ?_ | with_reducible refine l_intI ?_ | with_reducible refine sl_f ?_ | (refine l_len (by exact rfl) (q := ?_); skip) | (refine l_list (by exact rfl) ?_; skip) | (refine ix_t (by exact rfl) ?_; skip))

theorem sl_t {ws zs : List W} {lo hi : Option Int} {S : Sto} {Q : WK} {live : Bool} (h : cutW ws lo hi = zs) (q : Q (.tup zs) S) : slcW live (.tup ws) lo hi S Q := by subst h; exact q
theorem path_rw : ∀ {L : List Int} {rws : List (Int × Int)}, rws.length + 1 = L.length → (pathA L rws).map (fun x => x.2.2) = rws
  | [], _, h => by simp at h
  | [p], rws, h => by
    cases rws with
    | nil => rfl
    | cons _ _ => simp at h
  | p :: p2 :: ps, [], h => by simp at h
  | p :: p2 :: ps, r :: rws, h => by
    have := path_rw (L := p2 :: ps) (rws := rws) (by simpa using h)
    show (r.1, r.2) :: (pathA (p2 :: ps) rws).map _ = _
    rw [this]
theorem ring_rw {p : Int} {L : List Int} {rws : List (Int × Int)} (h : rws.length = L.length + 1) : (ringA p L rws).map (fun x => x.2.2) = rws := path_rw (by rw [h]; simp)
theorem ring_wsum {p : Int} {L : List Int} {rws : List (Int × Int)} (h : rws.length = L.length + 1) : wSum (ringA p L rws) = sumW rws := by
  have := ring_rw (p := p) h
  unfold wSum sumW
  rw [← this, List.map_map, this]
  rfl
theorem path_room {R : Int} : ∀ {L : List Int} {rws : List (Int × Int)}, (pathA L rws).map (fun x => (x.1, x.2.1, R, x.2.2.2)) = pathA L (rws.map fun r => (R, r.2))
  | [], rws => by cases rws <;> rfl
  | [p], rws => by cases rws <;> rfl
  | p :: p2 :: ps, [] => rfl
  | p :: p2 :: ps, r :: rws => by
    show _ :: (pathA (p2 :: ps) rws).map _ = _ :: pathA (p2 :: ps) (rws.map _)
    rw [path_room]
structure Acc (n : Nat) (used : List Int) (arcs : List Arc) (due : Int) : Prop where
  good : GoodA n arcs
  room : RoomOK arcs
  worth : WorthOK arcs
  low : ∀ q, due ≤ boundF arcs q
  ex : ∃ q, boundF arcs q = due
  ends : ∀ x ∈ arcs, x.1 ∈ used ∧ x.2.1 ∈ used
theorem Acc.nil {n : Nat} {used : List Int} : Acc n used [] 0 := ⟨fun x h => (by cases h), fun x h => (by cases h), fun x h => (by cases h), fun q => Int.le_refl _, ⟨fun _ => 0, rfl⟩, fun x h => (by cases h)⟩
theorem Acc.add {n : Nat} {used used' : List Int} {arcs arcs2 : List Arc} {due due2 : Int} (A : Acc n used arcs due) (sub : ∀ x ∈ used, x ∈ used') (g : GoodA n arcs2) (r : RoomOK arcs2) (w : WorthOK arcs2) (low : ∀ q, due2 ≤ boundF arcs2 q)
    (ex : ∀ q0 : Int → Int, ∃ q, (∀ x ∈ used, q x = q0 x) ∧ boundF arcs2 q = due2) (ends : ∀ x ∈ arcs2, x.1 ∈ used' ∧ x.2.1 ∈ used') : Acc n used' (arcs ++ arcs2) (due + due2) := by
  refine ⟨fun x hx => ?_, fun x hx => ?_, fun x hx => ?_, fun q => ?_, ?_, fun x hx => ?_⟩
  · rcases List.mem_append.mp hx with hx | hx
    · exact A.good x hx
    · exact g x hx
  · rcases List.mem_append.mp hx with hx | hx
    · exact A.room x hx
    · exact r x hx
  · rcases List.mem_append.mp hx with hx | hx
    · exact A.worth x hx
    · exact w x hx
  · have h1 := A.low q
    have h2 := low q
    rw [boundF_app]; omega
  · obtain ⟨q0, h0⟩ := A.ex
    obtain ⟨q, h1, h2⟩ := ex q0
    refine ⟨q, ?_⟩
    rw [boundF_app, h2, boundF_congr (q' := q0) fun x hx => ?_, h0]
    obtain ⟨e1, e2⟩ := A.ends x hx
    exact ⟨h1 _ e1, h1 _ e2⟩
  · rcases List.mem_append.mp hx with hx | hx
    · obtain ⟨e1, e2⟩ := A.ends x hx
      exact ⟨sub _ e1, sub _ e2⟩
    · exact ends x hx
theorem Acc.known {n : Nat} {used : List Int} {arcs : List Arc} {due : Int} (A : Acc n used arcs due) (hl : arcs.length ≤ 200) (n1 : 1 ≤ n) (n2 : n ≤ 40) : NetK n arcs ∧ Known arcs due := ⟨⟨A.good, A.room, A.worth, hl, n1, n2⟩, A.low, A.ex⟩
/-- a ring, or a path, over places -/
theorem path_good {n : Nat} {L : List Int} {rws : List (Int × Int)} (hp : ∀ x ∈ L, InP n x) (hr : RwOK rws) : GoodA n (pathA L rws) ∧ RoomOK (pathA L rws) ∧ WorthOK (pathA L rws) := by
  refine ⟨fun x hx => ?_, fun x hx => ?_, fun x hx => ?_⟩
  · obtain ⟨h1, h2, h3⟩ := path_mem hx
    exact ⟨hp _ h1, hp _ h2, (hr _ h3).1⟩
  · exact (hr _ (path_mem hx).2.2).2.1
  · exact (hr _ (path_mem hx).2.2).2.2
theorem ring_ok {p : Int} {L : List Int} {rws : List (Int × Int)} (hl : rws.length = L.length + 1) (hL : L.length ≤ 60) (hr : RwOK rws) : ArcsOK (ringA p L rws) ∧ (ringA p L rws).length = L.length + 1 := by
  have e : (ringA p L rws).length = L.length + 1 := by
    unfold ringA
    rw [pathA_len (by rw [hl]; simp), hl]
  exact ⟨⟨fun x hx => hr _ (path_mem hx).2.2, by omega⟩, e⟩
theorem ring_rho {p : Int} {L : List Int} {rws : List (Int × Int)} {ρ : Int} (hl : rws.length = L.length + 1) (h1 : ∃ x ∈ ringA p L rws, x.2.2.1 = ρ) (h2 : ∀ x ∈ ringA p L rws, ρ ≤ x.2.2.1) : (∃ w, (ρ, w) ∈ rws) ∧ ∀ r ∈ rws, ρ ≤ r.1 := by
  obtain ⟨x, hx, rfl⟩ := h1
  refine ⟨⟨_, (path_mem hx).2.2⟩, fun r hr => ?_⟩
  have e := ring_rw (p := p) hl
  rw [← e] at hr
  obtain ⟨y, hy, rfl⟩ := List.mem_map.mp hr
  exact h2 y hy
theorem rgc2 {i j c : Nat} (h1 : 1 ≤ c) (h2 : c ≤ 1000) (hi : i ≤ 1000) (hj : j ≤ 1000) : ∃ m : Nat, RgC i j c m ∧ m ≤ j ∧ ∀ k : Nat, k < m → (i : Int) + (k : Int) * c < j := by
  by_cases hij : i < j
  · have hq0 : 0 ≤ ((j : Int) - i - 1) / (c : Int) := Int.ediv_nonneg (by omega) (by omega)
    have hq1 : ((j : Int) - i - 1) / (c : Int) ≤ (j : Int) - i - 1 := Int.ediv_le_self _ (by omega)
    have hq2 : ((j : Int) - i - 1) / (c : Int) * c ≤ (j : Int) - i - 1 := Int.ediv_mul_le _ (by omega)
    refine ⟨(((j : Int) - i - 1) / (c : Int) + 1).toNat, ⟨by omega, by omega, ?_, ?_⟩, by omega, fun k hk => ?_⟩
    · unfold Builtin.Range.small Builtin.Range.rangeSize
      rw [if_pos (by omega), if_pos (by omega), if_pos (show (c : Int) > 0 by omega)]
      simp only [Builtin.Range.rangeFitsLong, Bool.and_eq_true, Bool.or_eq_true, decide_eq_true_eq]
      exact ⟨by omega, .inr (by omega)⟩
    · unfold Builtin.Range.rangeSize
      rw [if_pos (by omega), if_pos (by omega)]
      omega
    · have : (k : Int) * c ≤ ((j : Int) - i - 1) / (c : Int) * c := Int.mul_le_mul_of_nonneg_right (by omega) (by omega)
      omega
  · refine ⟨0, ⟨by omega, by omega, ?_, ?_⟩, by omega, fun k hk => absurd hk (Nat.not_lt_zero _)⟩
    · unfold Builtin.Range.small Builtin.Range.rangeSize
      rw [if_pos (by omega), if_neg (by omega)]
      simp only [Builtin.Range.rangeFitsLong, Bool.and_eq_true, Bool.or_eq_true, decide_eq_true_eq]
      exact ⟨by omega, .inl rfl⟩
    · unfold Builtin.Range.rangeSize
      rw [if_pos (by omega), if_neg (by omega)]
      rfl
theorem cut_01 {α : Type} {f : α → W} {x : α} {xs : List α} : cutW ((x :: xs).map f) none (some 1) = [f x] := by
  unfold cutW
  rw [sIx_nn (by decide), List.length_map, List.length_cons]
  show (((x :: xs).map f).drop 0).take (min 1 (xs.length + 1) - 0) = _
  rw [show min 1 (xs.length + 1) - 0 = 1 by omega]
  rfl
theorem cut_nn {α : Type} {f : α → W} {xs : List α} {i j : Int} (hi : 0 ≤ i) (hj : 0 ≤ j) (hl : i ≤ xs.length) : cutW (xs.map f) (some i) (some j) = ((xs.drop i.toNat).take (j.toNat - i.toNat)).map f := by
  rw [cut_map, sIx_nn hi, sIx_nn hj]
  congr 1
  rw [Nat.min_eq_left (show i.toNat ≤ xs.length by omega)]
  by_cases c : j.toNat ≤ xs.length
  · rw [Nat.min_eq_left c]
  · rw [Nat.min_eq_right (show xs.length ≤ j.toNat by omega), List.take_of_length_le (by rw [List.length_drop]; omega), List.take_of_length_le (by rw [List.length_drop]; omega)]
theorem ok16 : ∀ ws S Q X, Phi 16 ws S Q X → wps Phi c16 (startW N16 ws) S (dEnds Q XN) := by
  rintro ws S Q X ⟨ns, a, k, n, ps, rfl, hn, ⟨ha, h0, h9⟩, n1, n2, hps, hnd, hin, q⟩
  obtain ⟨p0, L, rfl⟩ : ∃ p0 L, ps = p0 :: L := by
    cases ps with
    | nil => simp at hps; omega
    | cons p L => exact ⟨p, L, rfl⟩
  rw [List.length_cons] at hps
  obtain ⟨hp0, hndL⟩ := List.nodup_cons.mp hnd
  have hin1 : ∀ x ∈ p0 :: L ++ [p0], InP n x := fun x hx => by
    rcases List.mem_append.mp hx with hx | hx
    · exact hin x hx
    · cases List.mem_singleton.mp hx; exact hin p0 (by simp)
  unfold c16
  show wps Phi _ [some (LA.iL ns), some (.ref a), some (.int n), some (LA.iL (p0 :: L)), none, none, none, none, none, none, none, none, none, none, none, none, none, none] S (dEnds Q XN)
  repeat' contradiction
  rw [p9]
  refine u_drawn hn ha (by omega) (by omega) rfl fun v v0 v1 => ?_
  have hal : ∀ {x}, (putC S a x) a = some (.lst [.int x]) := sup_same
  repeat' contradiction
  refine ite_d (fun _ => ?_) (fun _ => ?_)
  · repeat' contradiction
    rw [p12]
    refine ⟨ns, a, k + 1, p0, L, rfl, hn, ⟨hal, by omega, by omega⟩, by omega, fun rws k' hl hr hk hk2 => ?_⟩
    obtain ⟨ho, hlen⟩ := ring_ok (p := p0) hl (by omega) hr
    obtain ⟨g1, g2, g3⟩ := path_good hin1 hr
    repeat' contradiction
    rw [p13]
    refine ⟨_, rfl, ho, fun e => by rw [e] at hlen; simp at hlen, fun ρ r1 r2 => ?_⟩
    obtain ⟨m1, m2⟩ := ring_rho hl r1 r2
    have h0 : 0 ≤ ρ := by
      obtain ⟨x, hx, rfl⟩ := r1
      exact (ho.1 x hx).1
    obtain ⟨b1, b2⟩ := ring_known hnd hl m1 m2 h0
    repeat' contradiction
    rw [show putC (putC S a (k + 1)) a k' = putC S a k' from sup_sup, ring_wsum hl]
    obtain ⟨q0, _, _, hq⟩ := b2 (fun _ => 0)
    exact d_same (q _ _ _ ⟨g1, g2, g3, by rw [hlen]; omega, by omega, by omega⟩ ⟨b1, q0, hq⟩ (by omega) (by omega))
  repeat' contradiction
  refine ite_d (fun _ => ?_) (fun _ => ?_)
  · repeat' contradiction
    obtain ⟨cnt, hc, hc2, hck⟩ := rgc2 (i := 1) (j := n - 1) (c := 3) (by decide) (by decide) (by decide) (by omega)
    refine rg3 (n := cnt) (by rw [show (n : Int) - 1 = ((n - 1 : Nat) : Int) by omega]; exact hc) ?_
    refine for_map (fun i ρ S' => ∃ arcs due k' r8 r12, ρ = [some (LA.iL ns), some (.ref a), some (.int n), some (LA.iL (p0 :: L)), some (.int (v % 5)), some (aL arcs), some (.int due), none, r8, none, none, none, r12, none, none, none, none, none] ∧ S' = putC S a k' ∧ Acc n ((p0 :: L).take (1 + 3 * i)) arcs due ∧ arcs.length ≤ 4 * i ∧ k + 1 ≤ k' ∧ k' ≤ k + 1 + 130 * i)
      ⟨[], 0, k + 1, _, _, rfl, rfl, Acc.nil, by simp, by omega, by omega⟩ (fun _ _ _ _ => trivial) (fun i x ρ S' hx h K hK => ?_) (fun ρ S' h => ?_)
    · obtain ⟨arcs, due, k', r8, r12, rfl, rfl, A, hlA, hk, hk2⟩ := h
      have hi : i < cnt := by
        have := (List.getElem?_eq_some_iff.mp hx).1
        rwa [List.length_range] at this
      rw [List.getElem?_range hi] at hx
      cases hx
      have hki := hck i hi
      repeat' contradiction
      rw [cut_01, cut_nn (by omega) (by omega) (by rw [List.length_cons]; omega)]
      have e1 : (((1 : Nat) : Int) + (i : Int) * ((3 : Nat) : Int)).toNat = 1 + 3 * i := by omega
      have e2 : (1 + (i : Int) * 3 + 3).toNat - (1 + (i : Int) * 3).toNat = 3 := by omega
      have e3 : (1 + (i : Int) * 3).toNat = 1 + 3 * i := by omega
      rw [e2, e3]
      have e4 : (p0 :: L).drop (1 + 3 * i) = L.drop (3 * i) := by rw [Nat.add_comm]; rfl
      rw [e4]
      have hsl : ((L.drop (3 * i)).take 3).length ≤ 3 ∧ 1 ≤ ((L.drop (3 * i)).take 3).length := by rw [List.length_take, List.length_drop]; omega
      have hsub : ∀ y ∈ (L.drop (3 * i)).take 3, y ∈ L := fun y hy => List.mem_of_mem_drop (List.mem_of_mem_take hy)
      have hnd2 : (p0 :: (L.drop (3 * i)).take 3).Nodup := List.nodup_cons.mpr ⟨fun h => hp0 (hsub _ h), (hndL.sublist (List.drop_sublist _ _)).sublist (List.take_sublist _ _)⟩
      have hused : ∀ y ∈ (p0 :: L).take (1 + 3 * i), y ∉ (L.drop (3 * i)).take 3 := fun y hy hy2 => by
        have e5 : (p0 :: L).take (1 + 3 * i) = p0 :: L.take (3 * i) := by rw [Nat.add_comm]; rfl
        rw [e5] at hy
        rcases List.mem_cons.mp hy with rfl | hy
        · exact hp0 (hsub _ hy2)
        · have := List.take_append_drop (3 * i) L
          rw [← this, List.nodup_append] at hndL
          exact hndL.2.2 y hy y (List.mem_of_mem_take hy2) rfl
      have hin2 : ∀ x ∈ p0 :: (L.drop (3 * i)).take 3 ++ [p0], x ∈ p0 :: L := fun x hx => by
        rcases List.mem_append.mp hx with hx | hx
        · rcases List.mem_cons.mp hx with rfl | hx
          · simp
          · simp [hsub x hx]
        · cases List.mem_singleton.mp hx; simp
      have hends : ∀ x ∈ p0 :: (L.drop (3 * i)).take 3 ++ [p0], x ∈ (p0 :: L).take (1 + 3 * (i + 1)) := fun x hx => by
        have e5 : (p0 :: L).take (1 + 3 * (i + 1)) = p0 :: L.take (3 * i + 3) := by rw [show 1 + 3 * (i + 1) = (3 * i + 3) + 1 by omega]; rfl
        rw [e5]
        rcases List.mem_append.mp hx with hx | hx
        · rcases List.mem_cons.mp hx with rfl | hx
          · simp
          · rw [List.take_add]
            simp [hx]
        · cases List.mem_singleton.mp hx; simp
      generalize hL2 : (L.drop (3 * i)).take 3 = L2 at hsl hsub hnd2 hused hin2 hends ⊢
      refine b_cat rfl rfl (le_line (by simp only [List.length_cons, List.length_nil, List.length_map]; omega)) ?_
      refine mk_f ?_
      rw [show [W.int p0] ++ L2.map W.int = (p0 :: L2).map W.int from rfl]
      repeat' contradiction
      rw [p12]
      refine ⟨ns, a, k', p0, L2, rfl, hn, ⟨hal, by omega, by omega⟩, by omega, fun rws k2 hl hr hk3 hk4 => ?_⟩
      obtain ⟨ho, hlen⟩ := ring_ok (p := p0) hl (by omega) hr
      obtain ⟨g1, g2, g3⟩ := path_good (n := n) (L := p0 :: L2 ++ [p0]) (fun x hx => hin x (hin2 x hx)) hr
      rw [show putC (putC S a k') a k2 = putC S a k2 from sup_sup]
      repeat' contradiction
      refine b_cat rfl rfl (le_line (by rw [List.length_map, List.length_map]; omega)) ?_
      rw [← List.map_append]
      repeat' contradiction
      rw [p13]
      refine ⟨_, rfl, ho, fun e => by rw [e] at hlen; simp at hlen, fun ρ r1 r2 => ?_⟩
      obtain ⟨m1, m2⟩ := ring_rho hl r1 r2
      have h0 : 0 ≤ ρ := by
        obtain ⟨x, hx, rfl⟩ := r1
        exact (ho.1 x hx).1
      obtain ⟨b1, b2⟩ := ring_known hnd2 hl m1 m2 h0
      repeat' contradiction
      rw [ring_wsum hl]
      refine hK _ _ ⟨_, _, k2, _, _, rfl, rfl, A.add (fun x hx => ?_) g1 g2 g3 b1 (fun q0 => ?_) (fun x hx => ?_), ?_, by omega, by omega⟩
      · exact (List.take_sublist_take_left (by omega)).subset hx
      · obtain ⟨q, q1, q2, q3⟩ := b2 q0
        exact ⟨q, fun x hx => q2 x (hused x hx), q3⟩
      · obtain ⟨h1, h2, _⟩ := path_mem hx
        exact ⟨hends _ h1, hends _ h2⟩
      · rw [List.length_append, hlen]; omega
    · obtain ⟨arcs, due, k', r8, r12, rfl, rfl, A, hlA, hk, hk2⟩ := h
      rw [List.length_range] at A hlA hk2
      repeat' contradiction
      obtain ⟨w1, w2⟩ := A.known (by omega) (by omega) (by omega)
      exact d_same (q _ _ _ w1 w2 (by omega) (by omega))
  repeat' contradiction
  refine ite_d (fun _ => ?_) (fun _ => ?_)
  · repeat' contradiction
    rw [p10]
    refine u_room hn hal (by omega) (by omega) sup_sup fun R R0 R1 => ?_
    repeat' contradiction
    rw [p12]
    refine ⟨ns, a, k + 1 + 1, p0, L, rfl, hn, ⟨hal, by omega, by omega⟩, by omega, fun rws k' hl hr hk hk2 => ?_⟩
    obtain ⟨ho, hlen⟩ := ring_ok (p := p0) hl (by omega) hr
    rw [show putC (putC S a (k + 1 + 1)) a k' = putC S a k' from sup_sup]
    repeat' contradiction
    refine ⟨_, rfl, ?_⟩
    refine lc_mp (fun x => arcW (x.1, x.2.1, R, x.2.2.2)) rfl (le_line (by rw [hlen]; omega)) (fun x hx K hK => ?_) ?_
    · repeat' contradiction
      refine sl_t (zs := [.int x.1, .int x.2.1]) rfl ?_
      repeat' contradiction
      refine b_tup (by simp) (le_line (by simp)) ?_
      exact hK
    rw [show (ringA p0 L rws).map (fun x => arcW (x.1, x.2.1, R, x.2.2.2)) = ((ringA p0 L rws).map fun x => (x.1, x.2.1, R, x.2.2.2)).map arcW by rw [List.map_map]; rfl]
    rw [show (ringA p0 L rws).map (fun x => (x.1, x.2.1, R, x.2.2.2)) = ringA p0 L (rws.map fun r => (R, r.2)) from path_room]
    have hl2 : (rws.map fun r => (R, r.2)).length = L.length + 1 := by rw [List.length_map]; exact hl
    have hr2 : RwOK (rws.map fun r => (R, r.2)) := fun r hr' => by
      obtain ⟨y, hy, rfl⟩ := List.mem_map.mp hr'
      exact ⟨R0, R1, (hr y hy).2.2⟩
    have hR2 : ∀ r ∈ (rws.map fun r => (R, r.2)), r.1 = R := fun r hr' => by
      obtain ⟨y, hy, rfl⟩ := List.mem_map.mp hr'
      rfl
    generalize (rws.map fun r => (R, r.2)) = rws2 at hl2 hr2 hR2 ⊢
    obtain ⟨ho, hlen⟩ := ring_ok (p := p0) hl2 (by omega) hr2
    have hb := both_known hnd hl2 hR2 R0
    obtain ⟨g1, g2, g3⟩ := path_good hin1 hr2
    repeat' contradiction
    refine ⟨_, rfl, ?_⟩
    refine lc_mp (fun x => arcW (x.2.1, x.1, R, 0 - x.2.2.2)) rfl (le_line (by rw [hlen]; omega)) (fun x hx K hK => ?_) ?_
    · repeat' contradiction
      exact hK
    rw [show (ringA p0 L rws2).map (fun x => arcW (x.2.1, x.1, R, 0 - x.2.2.2)) = (backA (ringA p0 L rws2)).map arcW by
      unfold backA
      rw [List.map_map]
      refine List.map_congr_left fun x hx => ?_
      show arcW _ = arcW (x.2.1, x.1, x.2.2.1, 0 - x.2.2.2)
      rw [show x.2.2.1 = R from hR2 _ (path_mem hx).2.2]]
    have hbl : (backA (ringA p0 L rws2)).length = L.length + 1 := by unfold backA; rw [List.length_map, hlen]
    repeat' contradiction
    refine b_cat rfl rfl (le_line (by rw [List.length_map, List.length_map, hlen, hbl]; omega)) ?_
    rw [← List.map_append]
    repeat' contradiction
    refine ⟨_, rfl, ?_⟩
    refine lc_mp (fun x => W.int x.2.2.2) rfl (le_line (by rw [hlen]; omega)) (fun x hx K hK => ?_) ?_
    · repeat' contradiction
      exact hK
    rw [HRn.map_int]
    repeat' contradiction
    refine l_sum rfl ?_
    repeat' contradiction
    rw [show ((ringA p0 L rws2).map fun p => p.2.2.2).sum = sumW rws2 from ring_wsum hl2]
    have hbd := wSum_bd ho
    rw [ring_wsum hl2] at hbd
    refine l_abs ?_
    repeat' contradiction
    refine b_mul (mul_ok (by split <;> omega) (by omega)) ?_
    repeat' contradiction
    refine d_same (q _ _ _ ⟨fun x hx => ?_, fun x hx => ?_, fun x hx => ?_, ?_, by omega, by omega⟩ hb (by omega) (by omega))
    · rcases List.mem_append.mp hx with hx | hx
      · exact g1 x hx
      · obtain ⟨y, hy, rfl⟩ := List.mem_map.mp hx
        obtain ⟨z1, z2, z3⟩ := g1 y hy
        exact ⟨z2, z1, z3⟩
    · rcases List.mem_append.mp hx with hx | hx
      · exact g2 x hx
      · obtain ⟨y, hy, rfl⟩ := List.mem_map.mp hx
        exact g2 y hy
    · rcases List.mem_append.mp hx with hx | hx
      · exact g3 x hx
      · obtain ⟨y, hy, rfl⟩ := List.mem_map.mp hx
        have := g3 y hy
        show -1000 ≤ 0 - y.2.2.2 ∧ 0 - y.2.2.2 ≤ 1000
        omega
    · rw [List.length_append, hlen, hbl]; omega
  repeat' contradiction
  refine ite_d (fun _ => ?_) (fun _ => ?_)
  · repeat' contradiction
    refine mk_t fun p hp => ?_
    have hp' : S p = none ∧ p ≠ a := by
      have : p ≠ a := ne_new hal hp
      exact ⟨by rw [show putC S a (k + 1) p = S p from sup_ne this] at hp; exact hp, this⟩
    obtain ⟨hpS, hpa⟩ := hp'
    have hal2 : ∀ {x o}, (sup (putC S a x) p o) a = some (.lst [.int x]) := fun {x o} => by rw [sup_ne hpa.symm]; exact sup_same
    repeat' contradiction
    rw [List.length_map, List.length_cons]
    refine rg1 (by omega) ?_
    rw [show (((L.length + 1 : Nat) : Int) - 1).toNat = L.length by omega]
    refine for_rng (fun i ρ S' => ∃ (rws : List (Int × Int)) (k' : Int) (r8 : Option W), ρ = [some (LA.iL ns), some (.ref a), some (.int n), some (LA.iL (p0 :: L)), some (.int (v % 5)), some (.ref p), none, none, r8, none, none, none, none, none, none, none, none, none] ∧ S' = sup (putC S a k') p (.lst ((pathA ((p0 :: L).take (i + 1)) rws).map arcW)) ∧ rws.length = i ∧ RwOK rws ∧ k + 1 ≤ k' ∧ k' ≤ k + 1 + 2 * i)
      ⟨[], k + 1, _, rfl, rfl, rfl, fun x h => (by cases h), by omega, by omega⟩ (fun _ _ _ _ => trivial) (fun i ρ S' hi h K hK => ?_) (fun ρ S' h => ?_)
    · obtain ⟨rws, k', r8, rfl, rfl, hl, hr, hk, hk2⟩ := h
      have e0 : (0 + (i : Int)).toNat = i := by omega
      have e1 : (0 + (i : Int) + 1).toNat = i + 1 := by omega
      obtain ⟨x, hx⟩ : ∃ x, (p0 :: L)[i]? = some x := ⟨_, List.getElem?_eq_getElem (by rw [List.length_cons]; omega)⟩
      obtain ⟨y, hy⟩ : ∃ y, (p0 :: L)[i + 1]? = some y := ⟨_, List.getElem?_eq_getElem (by rw [List.length_cons]; omega)⟩
      repeat' contradiction
      refine m_rcv rfl sup_same ?_
      repeat' contradiction
      refine ix_map (by omega) (by rw [e0]; exact hx) ?_
      repeat' contradiction
      refine ix_map (by omega) (by rw [e1]; exact hy) ?_
      repeat' contradiction
      rw [p10]
      refine u_room hn hal2 (by omega) (by omega) (sup_swap hpa) fun rm rm0 rm1 => ?_
      repeat' contradiction
      rw [p11]
      refine u_worth hn hal2 (by omega) (by omega) (sup_swap hpa) fun w w0 w1 => ?_
      repeat' contradiction
      refine m_app sup_same (lt_line ?_) ?_
      · rw [List.length_map, pathA_len (by rw [List.length_take, List.length_cons]; omega)]; omega
      rw [sup_sup]
      repeat' contradiction
      refine hK _ _ ⟨rws ++ [(rm, w)], k' + 1 + 1, _, rfl, ?_, ?_, ?_, by omega, by omega⟩
      · rw [pathA_take hx hy hl, List.map_append]; rfl
      · rw [List.length_append, hl]; rfl
      · intro r hr2
        rcases List.mem_append.mp hr2 with hr2 | hr2
        · exact hr r hr2
        · cases List.mem_singleton.mp hr2; exact ⟨rm0, rm1, w0, w1⟩
    · obtain ⟨rws, k', r8, rfl, rfl, hl, hr, hk, hk2⟩ := h
      rw [show (p0 :: L).take (L.length + 1) = p0 :: L from List.take_of_length_le (by simp)]
      repeat' contradiction
      refine s_gf5 sup_same ?_
      rw [sdel_sup (sup_none hpa hpS)]
      repeat' contradiction
      obtain ⟨g1, g2, g3⟩ := path_good (n := n) (L := p0 :: L) hin hr
      exact d_same (q _ 0 _ ⟨g1, g2, g3, by rw [pathA_len (by rw [hl]; rfl)]; omega, by omega, by omega⟩ (path_known hnd hl fun r hr' => (hr r hr').1) (by omega) (by omega))
  repeat' contradiction
  rw [p9]
  refine u_drawn hn hal (by omega) (by omega) sup_sup fun d d0 d1 => ?_
  repeat' contradiction
  rw [cut_nn (by decide) (by omega) (by rw [List.length_cons]; omega)]
  have e1 : (p0 :: L).drop (1 : Int).toNat = L := rfl
  rw [e1]
  have hcnt : ((1 + d % 20).toNat - (1 : Int).toNat) ≤ 19 := by omega
  have hsub : ∀ x ∈ L.take ((1 + d % 20).toNat - (1 : Int).toNat), x ∈ L := fun x hx => List.mem_of_mem_take hx
  have hnd3 : (L.take ((1 + d % 20).toNat - (1 : Int).toNat)).Nodup := hndL.sublist (List.take_sublist _ _)
  have hlen3 : (L.take ((1 + d % 20).toNat - (1 : Int).toNat)).length ≤ 19 := by rw [List.length_take]; omega
  generalize L.take ((1 + d % 20).toNat - (1 : Int).toNat) = P at hsub hnd3 hlen3 ⊢
  refine ⟨_, rfl, ?_⟩
  refine for_map (fun i ρ S' => ∃ arcs due k' r7 r11, ρ = [some (LA.iL ns), some (.ref a), some (.int n), some (LA.iL (p0 :: L)), some (.int (v % 5)), some (aL arcs), some (.int due), r7, none, none, none, r11, none, none, none, none, none, none] ∧ S' = putC S a k' ∧ Acc n (p0 :: P.take i) arcs due ∧ arcs.length ≤ 6 * i ∧ k + 2 ≤ k' ∧ k' ≤ k + 2 + 50 * i)
    ⟨[], 0, k + 1 + 1, _, _, rfl, rfl, Acc.nil, by simp, by omega, by omega⟩ (fun _ _ _ h => rfl) (fun i x ρ S' hx h K hK => ?_) (fun ρ S' h => ?_)
  · obtain ⟨arcs, due, k', r7, r11, rfl, rfl, A, hlA, hk, hk2⟩ := h
    have hi := (List.getElem?_eq_some_iff.mp hx).1
    have hxL := hsub x (List.mem_of_getElem? hx)
    have hxne : p0 ≠ x := fun e => hp0 (by rw [e]; exact hxL)
    have hxu : ∀ y ∈ p0 :: P.take i, y ≠ x := fun y hy e => by
      subst e
      rcases List.mem_cons.mp hy with e | hy
      · exact hxne e.symm
      · obtain ⟨j, hj⟩ := List.getElem?_of_mem hy
        have hjl := (List.getElem?_eq_some_iff.mp hj).1
        rw [List.length_take] at hjl
        rw [List.getElem?_take_of_lt (by omega)] at hj
        have := (List.getElem?_inj (i := j) (j := i) (by omega) hnd3).mp (hj.trans hx.symm)
        omega
    repeat' contradiction
    refine ix_map (x := p0) (by decide) rfl ?_
    repeat' contradiction
    rw [p14]
    refine ⟨ns, a, k', p0, x, rfl, hn, ⟨hal, by omega, by omega⟩, fun arcs2 k2 t1 t2 t3 hk3 hk4 => ?_⟩
    rw [show putC (putC S a k') a k2 = putC S a k2 from sup_sup]
    repeat' contradiction
    refine b_cat rfl rfl (le_line (by rw [List.length_map, List.length_map]; omega)) ?_
    rw [← List.map_append]
    repeat' contradiction
    refine ix_map (x := p0) (by decide) rfl ?_
    repeat' contradiction
    rw [p15]
    refine ⟨arcs2, p0, rfl, t2, fun T B m hT hB sT sB hm => ?_⟩
    have hrn : RoomNN arcs2 := fun y hy => (t2.1 y hy).1
    obtain ⟨b1, b2⟩ := two_known hxne t1 hrn hT hB sT sB hm
    repeat' contradiction
    have htake : P.take (i + 1) = P.take i ++ [x] := by rw [List.take_add_one, hx]; rfl
    refine hK _ _ ⟨_, _, k2, _, _, rfl, rfl, A.add (fun y hy => ?_) (fun y hy => ?_) (fun y hy => (t2.1 y hy).2.1) (fun y hy => (t2.1 y hy).2.2) b1 (fun q0 => ?_) (fun y hy => ?_), ?_, by omega, by omega⟩
    · rw [htake]
      rcases List.mem_cons.mp hy with rfl | hy
      · simp
      · simp [hy]
    · have i0 := hin p0 (by simp)
      have i1 := hin x (by simp [hxL])
      rcases t1 y hy with ⟨z1, z2⟩ | ⟨z1, z2⟩
      · rw [z1, z2]; exact ⟨i0, i1, (t2.1 y hy).1⟩
      · rw [z1, z2]; exact ⟨i1, i0, (t2.1 y hy).1⟩
    · obtain ⟨q, q1, q2⟩ := b2 q0
      exact ⟨q, fun y hy => q1 y (hxu y hy), q2⟩
    · rw [htake]
      rcases t1 y hy with ⟨z1, z2⟩ | ⟨z1, z2⟩ <;> rw [z1, z2] <;> simp
    · rw [List.length_append]; omega
  · obtain ⟨arcs, due, k', r7, r11, rfl, rfl, A, hlA, hk, hk2⟩ := h
    repeat' contradiction
    obtain ⟨w1, w2⟩ := A.known (by omega) (by omega) (by omega)
    exact d_same (q _ _ _ w1 w2 (by omega) (by omega))
end K05

set_option Elab.async false
set_option linter.all false
set_option maxRecDepth 100000
set_option maxHeartbeats 4000000
namespace K05
open PySem PySem.Spec PyProof.Rows L2 MP Circ LA HRc HRn
local macro_rules
  | `(tactic| contradiction) => `(tactic| first | with_reducible refine d_in ?_ | with_reducible refine s_nil ?_ | with_reducible refine s_seq ?_ | with_reducible refine s_asg ?_ | with_reducible refine s_par ?_ | with_reducible refine s_expr ?_ | with_reducible refine s_ret ?_ | with_reducible refine s_retN ?_ | with_reducible refine s_iff ?_ | with_reducible refine s_fr ?_ | with_reducible refine s_cont ?_ | with_reducible refine s_brk ?_ | with_reducible refine s_pass ?_ | with_reducible refine s_augS ?_ | with_reducible refine e_int ?_ | with_reducible refine e_str ?_ | with_reducible refine e_bool ?_ | with_reducible refine e_none ?_ | with_reducible refine e_bin ?_ | with_reducible refine e_neg ?_ | with_reducible refine e_nt ?_ | with_reducible refine e_cmp ?_ | with_reducible refine e_chain ?_ | with_reducible refine e_an ?_ | with_reducible refine e_or ?_ | with_reducible refine an_1 ?_ | with_reducible refine an_2 ?_ | with_reducible refine or_1 ?_ | with_reducible refine or_2 ?_ | with_reducible refine e_ife ?_ | with_reducible refine e_call ?_ | with_reducible refine e_blt ?_ | with_reducible refine e_mth ?_ | with_reducible refine e_idx ?_ | with_reducible refine e_slc ?_ | with_reducible refine e_rev ?_ | with_reducible refine e_tup ?_ | with_reducible refine e_lst ?_ | with_reducible refine e_dnew ?_ | with_reducible refine e_dct ?_ | with_reducible refine e_isi ?_ | with_reducible refine e_lrg ?_ | with_reducible refine es_n ?_ | with_reducible refine es_c ?_ | with_reducible refine o_nil ?_ | with_reducible refine o_var ?_ | with_reducible refine o_cst ?_ | with_reducible refine o_bin ?_ | with_reducible refine o_neg ?_ | with_reducible refine o_blt ?_ | with_reducible refine o_call ?_ | with_reducible refine ik ?_ | with_reducible refine ng ?_ | with_reducible refine tq_bl ?_ | with_reducible refine tq_int ?_ | with_reducible refine tq_non ?_ | with_reducible refine tq_lst ?_ | with_reducible refine tq_tup ?_ | with_reducible refine t_var ?_ | with_reducible refine t_call ?_ | with_reducible refine t_blt ?_ | with_reducible refine t_mth ?_ | with_reducible refine t_idx ?_ | with_reducible refine t_isi ?_ | with_reducible refine t_cst ?_ | with_reducible refine t_nt ?_ | with_reducible refine t_cmp ?_ | with_reducible refine t_chain ?_ | with_reducible refine t_an ?_ | with_reducible refine t_or ?_ | with_reducible refine ant_1 ?_ | with_reducible refine ant_2 ?_ | with_reducible refine ort_1 ?_ | with_reducible refine ort_2 ?_ | with_reducible refine tr_bl ?_ | with_reducible refine tr_int ?_ | with_reducible refine tr_lst ?_ | with_reducible refine tr_non ?_ | with_reducible refine c_nil ?_ | with_reducible refine c_one ?_ | with_reducible refine g_sub ?_ | with_reducible refine gs_n ?_ | with_reducible refine gs_c ?_ | with_reducible refine i_seq ?_ | with_reducible refine i_rng1 ?_ | with_reducible refine i_rng2 ?_ | with_reducible refine i_rng3 ?_ | with_reducible refine i_zip ?_ | with_reducible refine i_enm ?_ | with_reducible refine b_add ?_ | with_reducible refine b_sub ?_ | with_reducible refine c_lt ?_ | with_reducible refine c_le ?_ | with_reducible refine c_gt ?_ | with_reducible refine c_ge ?_ | with_reducible refine mk_f ?_ | with_reducible refine ref_and ?_ | with_reducible refine u_set ?_ | with_reducible refine eq_i ?_ | with_reducible refine ne_i ?_ | with_reducible refine eq_b ?_ | with_reducible refine ne_b ?_ | with_reducible refine is_b ?_ | with_reducible refine isn_b ?_ | with_reducible refine is_n ?_ | with_reducible refine isn_n ?_ | with_reducible refine e_v0 ?_ | with_reducible refine g_v0 ?_ | with_reducible refine s_u0 ?_ | with_reducible refine e_v1 ?_ | with_reducible refine g_v1 ?_ | with_reducible refine s_u1 ?_ | with_reducible refine e_v2 ?_ | with_reducible refine g_v2 ?_ | with_reducible refine s_u2 ?_ | with_reducible refine e_v3 ?_ | with_reducible refine g_v3 ?_ | with_reducible refine s_u3 ?_ | with_reducible refine e_v4 ?_ | with_reducible refine g_v4 ?_ | with_reducible refine s_u4 ?_ | with_reducible refine e_v5 ?_ | with_reducible refine g_v5 ?_ | with_reducible refine s_u5 ?_ | with_reducible refine e_v6 ?_ | with_reducible refine g_v6 ?_ | with_reducible refine s_u6 ?_ | with_reducible refine e_v7 ?_ | with_reducible refine g_v7 ?_ | with_reducible refine s_u7 ?_ | with_reducible refine e_v8 ?_ | with_reducible refine g_v8 ?_ | with_reducible refine s_u8 ?_ | with_reducible refine e_v9 ?_ | with_reducible refine g_v9 ?_ | with_reducible refine s_u9 ?_ | with_reducible refine e_v10 ?_ | with_reducible refine g_v10 ?_ | with_reducible refine s_u10 ?_ | with_reducible refine e_v11 ?_ | with_reducible refine g_v11 ?_ | with_reducible refine s_u11 ?_ | with_reducible refine e_v12 ?_ | with_reducible refine g_v12 ?_ | with_reducible refine s_u12 ?_ | with_reducible refine e_v13 ?_ | with_reducible refine g_v13 ?_ | with_reducible refine s_u13 ?_ | with_reducible refine e_v14 ?_ | with_reducible refine g_v14 ?_ | with_reducible refine s_u14 ?_ | with_reducible refine e_v15 ?_ | with_reducible refine g_v15 ?_ | with_reducible refine s_u15 ?_ | with_reducible refine e_v16 ?_ | with_reducible refine g_v16 ?_ | with_reducible refine s_u16 ?_ | with_reducible refine e_v17 ?_ | with_reducible refine g_v17 ?_ | with_reducible refine s_u17 ?_ | with_reducible refine e_v18 ?_ | with_reducible refine g_v18 ?_ | with_reducible refine s_u18 ?_ | with_reducible refine e_v19 ?_ | with_reducible refine g_v19 ?_ | with_reducible refine s_u19 ?_ | ((with_reducible refine e_lc' (ρ' := ?rr) ?hw ?_); (case hw => (dsimp only [wipeW, List.map, List.set]; exact rfl))) | ((with_reducible refine g_tup ?hl ?_); (case hl => exact rfl)) | with_reducible refine b_mod (by first | decide | omega) ?_ | ((with_reducible refine b_pow (pow_ok (by decide) (by decide) (by decide)) ?_); simp only [Int.reduceToNat, Int.reducePow]) | with_reducible refine le_and (by simp only [List.length_cons, List.length_nil]; decide) ?_ | with_reducible refine l_intB ?_ | with_reducible refine l_intI ?_ | with_reducible refine sl_f ?_ | (refine l_len (by exact rfl) (q := ?_); skip) | (refine l_list (by exact rfl) ?_; skip) | (refine ix_t (by exact rfl) ?_; skip))

theorem netK_rev {n : Nat} {arcs : List Arc} (h : NetK n arcs) : NetK n arcs.reverse := by
  obtain ⟨g1, g2, g3, g4, g5, g6⟩ := h
  exact ⟨fun x hx => g1 x (List.mem_reverse.mp hx), fun x hx => g2 x (List.mem_reverse.mp hx), fun x hx => g3 x (List.mem_reverse.mp hx), by rw [List.length_reverse]; exact g4, g5, g6⟩
theorem ok18 : ∀ ws S Q X, Phi 18 ws S Q X → wps Phi c18 (startW N18 ws) S (dEnds Q XN) := by
  rintro ws S Q X ⟨ns, rfl, hn, rfl, q⟩
  unfold c18
  show wps Phi _ [some (LA.iL ns), none, none, none, none, none, none, none, none] S00 (dEnds Q XN)
  repeat' contradiction
  refine mk_t fun a ha => ?_
  repeat' contradiction
  rw [List.length_map]
  refine b_div (div_ok (by decide) (by decide)) ?_
  repeat' contradiction
  refine l_min2 fun m1 hm1 => ?_
  repeat' contradiction
  refine l_max2 fun m2 hm2 => ?_
  refine rg1 (by omega) ?_
  refine for_rng (fun i ρ S' => ∃ k r2 r3 r4 r5 r6 r7 r8, ρ = [some (LA.iL ns), some (.ref a), r2, r3, r4, r5, r6, r7, r8] ∧ S' a = some (.lst [.int k]) ∧ 0 ≤ k ∧ k ≤ 10000 * i) ⟨0, _, _, _, _, _, _, _, rfl, sup_same, by omega, by omega⟩ (fun _ _ _ _ => trivial) (fun i ρ S' hi h K hK => ?_) (fun ρ S' h => ?_)
  · obtain ⟨k, r2, r3, r4, r5, r6, r7, r8, rfl, hk, k0, k1⟩ := h
    repeat' contradiction
    rw [p9]
    refine u_drawn hn hk (by omega) (by omega) rfl fun v v0 v1 => ?_
    have hk2 : ∀ {x}, (putC S' a x) a = some (.lst [.int x]) := sup_same
    repeat' contradiction
    rw [p9]
    refine u_drawn hn hk2 (by omega) (by omega) sup_sup fun d d0 d1 => ?_
    repeat' contradiction
    obtain ⟨r, hr, hr1, hr2⟩ : ∃ r : Int, atI [W.int 3, W.int 29] (d % 2) = some (.int r) ∧ 0 < r ∧ r ≤ 29 := by
      rcases (show d % 2 = 0 ∨ d % 2 = 1 by omega) with e | e <;> rw [e]
      · exact ⟨3, rfl, by decide, by decide⟩
      · exact ⟨29, rfl, by decide, by decide⟩
    refine ix_l hr ?_
    repeat' contradiction
    have h1 := Int.emod_nonneg v (show r ≠ 0 by omega)
    have h2 := Int.emod_lt_of_pos v hr1
    obtain ⟨n, en⟩ : ∃ n : Nat, 2 + v % r = (n : Int) := ⟨(2 + v % r).toNat, by omega⟩
    rw [en]
    have n1 : 2 ≤ n := by omega
    have n2 : n ≤ 31 := by omega
    rw [p17]
    refine ⟨ns, a, k + 1 + 1, n, rfl, hn, ⟨hk2, by omega, by omega⟩, n1, n2, fun ps k3 l1 l2 l3 hk3 hk4 => ?_⟩
    rw [show putC (putC S' a (k + 1 + 1)) a k3 = putC S' a k3 from sup_sup]
    repeat' contradiction
    rw [p16]
    refine ⟨ns, a, k3, n, ps, rfl, hn, ⟨hk2, by omega, by omega⟩, n1, n2, l1, l2, l3, fun arcs due k4 hnet hkn hk5 hk6 => ?_⟩
    rw [show putC (putC S' a k3) a k4 = putC S' a k4 from sup_sup]
    repeat' contradiction
    refine ⟨_, rfl, mk_f ?_⟩
    rw [← List.map_reverse]
    repeat' contradiction
    refine ⟨[aL arcs, aL arcs.reverse], rfl, ?_⟩
    rw [show [aL arcs, aL arcs.reverse] = [arcs, arcs.reverse].map aL from rfl]
    refine for_map (fun j ρ S2 => ∃ r4 r7 r8, ρ = [some (LA.iL ns), some (.ref a), some (.int (0 + (i : Int))), some (.int n), r4, some (aL arcs), some (.int due), r7, r8] ∧ S2 a = some (.lst [.int k4])) ⟨_, _, _, rfl, hk2⟩ (fun _ _ _ _ => rfl) (fun j some' ρ S2 hj h K2 hK2 => ?_) (fun ρ S2 h => ?_)
    · obtain ⟨r4, r7, r8, rfl, hS2⟩ := h
      obtain ⟨hN, hK⟩ : NetK n some' ∧ Known some' due := by
        have := List.mem_of_getElem? hj
        simp only [List.mem_cons, List.not_mem_nil, or_false] at this
        rcases this with rfl | rfl
        · exact ⟨hnet, hkn⟩
        · exact ⟨netK_rev hnet, hkn.rev⟩
      obtain ⟨F, P1, P2, P3⟩ := circ_ok hN.1 (by omega : 0 < n)
      have P4 : ∀ p, InP n p → -(10 ^ 10) ≤ gI (circM n some').2 p ∧ gI (circM n some').2 p ≤ 10 ^ 10 := fun p hp => by
        have := price_bd hN.1 hN.2.2.1 (by omega) hp
        omega
      have hw := hK.worth hN.1 F P3
      repeat' contradiction
      rw [p5]
      refine ⟨n, aL some', some', rfl, rfl, hN.1, hN.2.1, by omega, by omega, by have := hN.2.2.2.1; omega, fun pf pp hpf hne hpp => ?_⟩
      have ef : (sup (sup S2 pf (iO (circM n some').1)) pp (iO (circM n some').2)) pf = some (iO (circM n some').1) := by rw [sup_ne hne.symm]; exact sup_same
      have eA : (sup (sup S2 pf (iO (circM n some').1)) pp (iO (circM n some').2)) a = some (.lst [.int k4]) := by
        rw [sup_ne (fun e => by rw [← e, hS2] at hpp; cases hpp), sup_ne (fun e => by rw [← e, hS2] at hpf; cases hpf)]
        exact hS2
      repeat' contradiction
      rw [p6]
      refine ⟨n, aL some', .ref pf, some', (circM n some').1, rfl, rfl, rdl_c ef, hN, F, ?_⟩
      repeat' contradiction
      refine iteF ?_
      repeat' contradiction
      rw [p7]
      refine ⟨n, aL some', .ref pf, some', (circM n some').1, rfl, rfl, rdl_c ef, hN, F, ?_⟩
      repeat' contradiction
      refine iteF' (by rw [hw]; simp) ?_
      repeat' contradiction
      refine l_len (rdq_c sup_same) (q := ?_)
      repeat' contradiction
      refine iteF' (by rw [List.length_map, P1]; simp) ?_
      repeat' contradiction
      refine ix_mapc sup_same (by decide) (int_at P1 (p := 0) ⟨by omega, by omega⟩) ?_
      rw [P2]
      repeat' contradiction
      refine iteF' (by decide) ?_
      repeat' contradiction
      rw [p8]
      refine ⟨n, aL some', .ref pp, some', (circM n some').2, rfl, rfl, rdl_c sup_same, hN, P1, P4, ?_⟩
      repeat' contradiction
      refine iteF' (by rw [P3, hw]; simp) ?_
      repeat' contradiction
      exact hK2 _ _ ⟨_, _, _, rfl, eA⟩
    · obtain ⟨r4, r7, r8, rfl, hS2⟩ := h
      exact hK _ _ ⟨k4, _, _, _, _, _, _, _, rfl, hS2, by omega, by omega⟩
  · repeat' contradiction
    exact d_ret (fun a o ha => by cases ha) q
end K05

set_option Elab.async false
set_option linter.all false
set_option maxRecDepth 100000
set_option maxHeartbeats 4000000
namespace K05
open PySem PySem.Spec PyProof.Rows L2 MP
theorem all_mk {l : PySem.W.OpenLaw} {w : World} {K : PySem.W.Frag} {h : Heap} {mg : Str → Option Value} {fa : Addr} (X : K.In h) (G : h.Ns mainGlobals mg) (hfa : mg "law" = some (.ref fa))
    {f0 : Addr} {od0 an0 : Option Addr} {sl0 : Array (Option Value)} {oc0 kV0 dc0 pm0 cd0 ct0 : Value}
    (a0 : PySem.W.nsIn K mainGlobals "halves_of" = some (some (.ref f0)))
    (l0 : K.lookup f0 = some ⟨oc0, od0, .func (PySem.W.fnOf "halves_of" "halves_of" (defArgs st0) (defBody st0) (defScope st0) .none kV0 dc0 pm0 an0 cd0 ct0), sl0⟩)
    (d0 : PySem.W.codeIn K cd0 "halves_of" = true) (e0 : PySem.W.keepIn K (.ref f0) = true)
    {f1 : Addr} {od1 an1 : Option Addr} {sl1 : Array (Option Value)} {oc1 kV1 dc1 pm1 cd1 ct1 : Value}
    (a1 : PySem.W.nsIn K mainGlobals "ways_from" = some (some (.ref f1)))
    (l1 : K.lookup f1 = some ⟨oc1, od1, .func (PySem.W.fnOf "ways_from" "ways_from" (defArgs st1) (defBody st1) (defScope st1) .none kV1 dc1 pm1 an1 cd1 ct1), sl1⟩)
    (d1 : PySem.W.codeIn K cd1 "ways_from" = true) (e1 : PySem.W.keepIn K (.ref f1) = true)
    {f2 : Addr} {od2 an2 : Option Addr} {sl2 : Array (Option Value)} {oc2 kV2 dc2 pm2 cd2 ct2 : Value}
    (a2 : PySem.W.nsIn K mainGlobals "way_to" = some (some (.ref f2)))
    (l2 : K.lookup f2 = some ⟨oc2, od2, .func (PySem.W.fnOf "way_to" "way_to" (defArgs st2) (defBody st2) (defScope st2) .none kV2 dc2 pm2 an2 cd2 ct2), sl2⟩)
    (d2 : PySem.W.codeIn K cd2 "way_to" = true) (e2 : PySem.W.keepIn K (.ref f2) = true)
    {f3 : Addr} {od3 an3 : Option Addr} {sl3 : Array (Option Value)} {oc3 kV3 dc3 pm3 cd3 ct3 : Value}
    (a3 : PySem.W.nsIn K mainGlobals "spares_of" = some (some (.ref f3)))
    (l3 : K.lookup f3 = some ⟨oc3, od3, .func (PySem.W.fnOf "spares_of" "spares_of" (defArgs st3) (defBody st3) (defScope st3) .none kV3 dc3 pm3 an3 cd3 ct3), sl3⟩)
    (d3 : PySem.W.codeIn K cd3 "spares_of" = true) (e3 : PySem.W.keepIn K (.ref f3) = true)
    {f4 : Addr} {od4 an4 : Option Addr} {sl4 : Array (Option Value)} {oc4 kV4 dc4 pm4 cd4 ct4 : Value}
    (a4 : PySem.W.nsIn K mainGlobals "led_back" = some (some (.ref f4)))
    (l4 : K.lookup f4 = some ⟨oc4, od4, .func (PySem.W.fnOf "led_back" "led_back" (defArgs st4) (defBody st4) (defScope st4) .none kV4 dc4 pm4 an4 cd4 ct4), sl4⟩)
    (d4 : PySem.W.codeIn K cd4 "led_back" = true) (e4 : PySem.W.keepIn K (.ref f4) = true)
    {f5 : Addr} {od5 an5 : Option Addr} {sl5 : Array (Option Value)} {oc5 kV5 dc5 pm5 cd5 ct5 : Value}
    (a5 : PySem.W.nsIn K mainGlobals "circulation" = some (some (.ref f5)))
    (l5 : K.lookup f5 = some ⟨oc5, od5, .func (PySem.W.fnOf "circulation" "circulation" (defArgs st5) (defBody st5) (defScope st5) .none kV5 dc5 pm5 an5 cd5 ct5), sl5⟩)
    (d5 : PySem.W.codeIn K cd5 "circulation" = true) (e5 : PySem.W.keepIn K (.ref f5) = true)
    {f6 : Addr} {od6 an6 : Option Addr} {sl6 : Array (Option Value)} {oc6 kV6 dc6 pm6 cd6 ct6 : Value}
    (a6 : PySem.W.nsIn K mainGlobals "is_circling" = some (some (.ref f6)))
    (l6 : K.lookup f6 = some ⟨oc6, od6, .func (PySem.W.fnOf "is_circling" "is_circling" (defArgs st6) (defBody st6) (defScope st6) .none kV6 dc6 pm6 an6 cd6 ct6), sl6⟩)
    (d6 : PySem.W.codeIn K cd6 "is_circling" = true) (e6 : PySem.W.keepIn K (.ref f6) = true)
    {f7 : Addr} {od7 an7 : Option Addr} {sl7 : Array (Option Value)} {oc7 kV7 dc7 pm7 cd7 ct7 : Value}
    (a7 : PySem.W.nsIn K mainGlobals "worth" = some (some (.ref f7)))
    (l7 : K.lookup f7 = some ⟨oc7, od7, .func (PySem.W.fnOf "worth" "worth" (defArgs st7) (defBody st7) (defScope st7) .none kV7 dc7 pm7 an7 cd7 ct7), sl7⟩)
    (d7 : PySem.W.codeIn K cd7 "worth" = true) (e7 : PySem.W.keepIn K (.ref f7) = true)
    {f8 : Addr} {od8 an8 : Option Addr} {sl8 : Array (Option Value)} {oc8 kV8 dc8 pm8 cd8 ct8 : Value}
    (a8 : PySem.W.nsIn K mainGlobals "bound_by" = some (some (.ref f8)))
    (l8 : K.lookup f8 = some ⟨oc8, od8, .func (PySem.W.fnOf "bound_by" "bound_by" (defArgs st8) (defBody st8) (defScope st8) .none kV8 dc8 pm8 an8 cd8 ct8), sl8⟩)
    (d8 : PySem.W.codeIn K cd8 "bound_by" = true) (e8 : PySem.W.keepIn K (.ref f8) = true)
    {f9 : Addr} {od9 an9 : Option Addr} {sl9 : Array (Option Value)} {oc9 kV9 dc9 pm9 cd9 ct9 : Value}
    (a9 : PySem.W.nsIn K mainGlobals "_law_drawn" = some (some (.ref f9)))
    (l9 : K.lookup f9 = some ⟨oc9, od9, .func (PySem.W.fnOf "_law_drawn" "_law_drawn" (defArgs st9) (defBody st9) (defScope st9) .none kV9 dc9 pm9 an9 cd9 ct9), sl9⟩)
    (d9 : PySem.W.codeIn K cd9 "_law_drawn" = true) (e9 : PySem.W.keepIn K (.ref f9) = true)
    {f10 : Addr} {od10 an10 : Option Addr} {sl10 : Array (Option Value)} {oc10 kV10 dc10 pm10 cd10 ct10 : Value}
    (a10 : PySem.W.nsIn K mainGlobals "_law_room" = some (some (.ref f10)))
    (l10 : K.lookup f10 = some ⟨oc10, od10, .func (PySem.W.fnOf "_law_room" "_law_room" (defArgs st10) (defBody st10) (defScope st10) .none kV10 dc10 pm10 an10 cd10 ct10), sl10⟩)
    (d10 : PySem.W.codeIn K cd10 "_law_room" = true) (e10 : PySem.W.keepIn K (.ref f10) = true)
    {f11 : Addr} {od11 an11 : Option Addr} {sl11 : Array (Option Value)} {oc11 kV11 dc11 pm11 cd11 ct11 : Value}
    (a11 : PySem.W.nsIn K mainGlobals "_law_worth" = some (some (.ref f11)))
    (l11 : K.lookup f11 = some ⟨oc11, od11, .func (PySem.W.fnOf "_law_worth" "_law_worth" (defArgs st11) (defBody st11) (defScope st11) .none kV11 dc11 pm11 an11 cd11 ct11), sl11⟩)
    (d11 : PySem.W.codeIn K cd11 "_law_worth" = true) (e11 : PySem.W.keepIn K (.ref f11) = true)
    {f12 : Addr} {od12 an12 : Option Addr} {sl12 : Array (Option Value)} {oc12 kV12 dc12 pm12 cd12 ct12 : Value}
    (a12 : PySem.W.nsIn K mainGlobals "_law_ring" = some (some (.ref f12)))
    (l12 : K.lookup f12 = some ⟨oc12, od12, .func (PySem.W.fnOf "_law_ring" "_law_ring" (defArgs st12) (defBody st12) (defScope st12) .none kV12 dc12 pm12 an12 cd12 ct12), sl12⟩)
    (d12 : PySem.W.codeIn K cd12 "_law_ring" = true) (e12 : PySem.W.keepIn K (.ref f12) = true)
    {f13 : Addr} {od13 an13 : Option Addr} {sl13 : Array (Option Value)} {oc13 kV13 dc13 pm13 cd13 ct13 : Value}
    (a13 : PySem.W.nsIn K mainGlobals "_law_ring_due" = some (some (.ref f13)))
    (l13 : K.lookup f13 = some ⟨oc13, od13, .func (PySem.W.fnOf "_law_ring_due" "_law_ring_due" (defArgs st13) (defBody st13) (defScope st13) .none kV13 dc13 pm13 an13 cd13 ct13), sl13⟩)
    (d13 : PySem.W.codeIn K cd13 "_law_ring_due" = true) (e13 : PySem.W.keepIn K (.ref f13) = true)
    {f14 : Addr} {od14 an14 : Option Addr} {sl14 : Array (Option Value)} {oc14 kV14 dc14 pm14 cd14 ct14 : Value}
    (a14 : PySem.W.nsIn K mainGlobals "_law_two" = some (some (.ref f14)))
    (l14 : K.lookup f14 = some ⟨oc14, od14, .func (PySem.W.fnOf "_law_two" "_law_two" (defArgs st14) (defBody st14) (defScope st14) .none kV14 dc14 pm14 an14 cd14 ct14), sl14⟩)
    (d14 : PySem.W.codeIn K cd14 "_law_two" = true) (e14 : PySem.W.keepIn K (.ref f14) = true)
    {f15 : Addr} {od15 an15 : Option Addr} {sl15 : Array (Option Value)} {oc15 kV15 dc15 pm15 cd15 ct15 : Value}
    (a15 : PySem.W.nsIn K mainGlobals "_law_two_due" = some (some (.ref f15)))
    (l15 : K.lookup f15 = some ⟨oc15, od15, .func (PySem.W.fnOf "_law_two_due" "_law_two_due" (defArgs st15) (defBody st15) (defScope st15) .none kV15 dc15 pm15 an15 cd15 ct15), sl15⟩)
    (d15 : PySem.W.codeIn K cd15 "_law_two_due" = true) (e15 : PySem.W.keepIn K (.ref f15) = true)
    {f16 : Addr} {od16 an16 : Option Addr} {sl16 : Array (Option Value)} {oc16 kV16 dc16 pm16 cd16 ct16 : Value}
    (a16 : PySem.W.nsIn K mainGlobals "_law_known" = some (some (.ref f16)))
    (l16 : K.lookup f16 = some ⟨oc16, od16, .func (PySem.W.fnOf "_law_known" "_law_known" (defArgs st16) (defBody st16) (defScope st16) .none kV16 dc16 pm16 an16 cd16 ct16), sl16⟩)
    (d16 : PySem.W.codeIn K cd16 "_law_known" = true) (e16 : PySem.W.keepIn K (.ref f16) = true)
    {f17 : Addr} {od17 an17 : Option Addr} {sl17 : Array (Option Value)} {oc17 kV17 dc17 pm17 cd17 ct17 : Value}
    (a17 : PySem.W.nsIn K mainGlobals "_law_order" = some (some (.ref f17)))
    (l17 : K.lookup f17 = some ⟨oc17, od17, .func (PySem.W.fnOf "_law_order" "_law_order" (defArgs st17) (defBody st17) (defScope st17) .none kV17 dc17 pm17 an17 cd17 ct17), sl17⟩)
    (d17 : PySem.W.codeIn K cd17 "_law_order" = true) (e17 : PySem.W.keepIn K (.ref f17) = true)
    {f18 : Addr} {od18 an18 : Option Addr} {sl18 : Array (Option Value)} {oc18 kV18 dc18 pm18 cd18 ct18 : Value}
    (a18 : PySem.W.nsIn K mainGlobals "law" = some (some (.ref f18)))
    (l18 : K.lookup f18 = some ⟨oc18, od18, .func (PySem.W.fnOf "law" "law" (defArgs st18) (defBody st18) (defScope st18) .none kV18 dc18 pm18 an18 cd18 ct18), sl18⟩)
    (d18 : PySem.W.codeIn K cd18 "law" = true) (e18 : PySem.W.keepIn K (.ref f18) = true)
    (z_len : PySem.W.nsIn K mainGlobals "len" = some none)
    (z_abs : PySem.W.nsIn K mainGlobals "abs" = some none)
    (z_min : PySem.W.nsIn K mainGlobals "min" = some none)
    (z_max : PySem.W.nsIn K mainGlobals "max" = some none)
    (z_sum : PySem.W.nsIn K mainGlobals "sum" = some none)
    (z_all : PySem.W.nsIn K mainGlobals "all" = some none)
    (z_any : PySem.W.nsIn K mainGlobals "any" = some none)
    (z_int : PySem.W.nsIn K mainGlobals "int" = some none)
    (z_str : PySem.W.nsIn K mainGlobals "str" = some none)
    (z_list : PySem.W.nsIn K mainGlobals "list" = some none)
    (z_tuple : PySem.W.nsIn K mainGlobals "tuple" = some none)
    (z_range : PySem.W.nsIn K mainGlobals "range" = some none)
    (z_zip : PySem.W.nsIn K mainGlobals "zip" = some none)
    (z_enumerate : PySem.W.nsIn K mainGlobals "enumerate" = some none)
    (z_isinstance : PySem.W.nsIn K mainGlobals "isinstance" = some none)
    (z_set : PySem.W.nsIn K mainGlobals "set" = some none)
    (z_sorted : PySem.W.nsIn K mainGlobals "sorted" = some none)
    (z_dict : PySem.W.nsIn K mainGlobals "dict" = some none)
    (z_reversed : PySem.W.nsIn K mainGlobals "reversed" = some none)
    (z_bool : PySem.W.nsIn K mainGlobals "bool" = some none)
    : ∃ fd : FuncData, (∀ (s : Shared) (v : Value), BindsTo s fd ⟨[v], []⟩ [("_law_script", v)]) ∧ ∀ base : Heap, K.In base → base.Ns mainGlobals mg → FnOk l.prog w K mg base CX0 19 fa fd ["_law_script"] (spOf K (Phi 18)) := by
  have e := hfa.symm.trans (PySem.W.mg_of X G a18)
  cases e
  have F0 := fun_mk (st := st0) l0 d0 e0
  have b0 := F0.binds (ps := P0) fun _ _ _ _ _ _ us hl => match us, hl with | [_, _], _ => rfl
  have F1 := fun_mk (st := st1) l1 d1 e1
  have b1 := F1.binds (ps := P1) fun _ _ _ _ _ _ us hl => match us, hl with | [_, _, _], _ => rfl
  have F2 := fun_mk (st := st2) l2 d2 e2
  have b2 := F2.binds (ps := P2) fun _ _ _ _ _ _ us hl => match us, hl with | [_, _], _ => rfl
  have F3 := fun_mk (st := st3) l3 d3 e3
  have b3 := F3.binds (ps := P3) fun _ _ _ _ _ _ us hl => match us, hl with | [_, _, _], _ => rfl
  have F4 := fun_mk (st := st4) l4 d4 e4
  have b4 := F4.binds (ps := P4) fun _ _ _ _ _ _ us hl => match us, hl with | [_, _, _, _], _ => rfl
  have F5 := fun_mk (st := st5) l5 d5 e5
  have b5 := F5.binds (ps := P5) fun _ _ _ _ _ _ us hl => match us, hl with | [_, _], _ => rfl
  have F6 := fun_mk (st := st6) l6 d6 e6
  have b6 := F6.binds (ps := P6) fun _ _ _ _ _ _ us hl => match us, hl with | [_, _, _], _ => rfl
  have F7 := fun_mk (st := st7) l7 d7 e7
  have b7 := F7.binds (ps := P7) fun _ _ _ _ _ _ us hl => match us, hl with | [_, _], _ => rfl
  have F8 := fun_mk (st := st8) l8 d8 e8
  have b8 := F8.binds (ps := P8) fun _ _ _ _ _ _ us hl => match us, hl with | [_, _], _ => rfl
  have F9 := fun_mk (st := st9) l9 d9 e9
  have b9 := F9.binds (ps := P9) fun _ _ _ _ _ _ us hl => match us, hl with | [_, _], _ => rfl
  have F10 := fun_mk (st := st10) l10 d10 e10
  have b10 := F10.binds (ps := P10) fun _ _ _ _ _ _ us hl => match us, hl with | [_, _], _ => rfl
  have F11 := fun_mk (st := st11) l11 d11 e11
  have b11 := F11.binds (ps := P11) fun _ _ _ _ _ _ us hl => match us, hl with | [_, _], _ => rfl
  have F12 := fun_mk (st := st12) l12 d12 e12
  have b12 := F12.binds (ps := P12) fun _ _ _ _ _ _ us hl => match us, hl with | [_, _, _], _ => rfl
  have F13 := fun_mk (st := st13) l13 d13 e13
  have b13 := F13.binds (ps := P13) fun _ _ _ _ _ _ us hl => match us, hl with | [_], _ => rfl
  have F14 := fun_mk (st := st14) l14 d14 e14
  have b14 := F14.binds (ps := P14) fun _ _ _ _ _ _ us hl => match us, hl with | [_, _, _, _], _ => rfl
  have F15 := fun_mk (st := st15) l15 d15 e15
  have b15 := F15.binds (ps := P15) fun _ _ _ _ _ _ us hl => match us, hl with | [_, _], _ => rfl
  have F16 := fun_mk (st := st16) l16 d16 e16
  have b16 := F16.binds (ps := P16) fun _ _ _ _ _ _ us hl => match us, hl with | [_, _, _, _], _ => rfl
  have F17 := fun_mk (st := st17) l17 d17 e17
  have b17 := F17.binds (ps := P17) fun _ _ _ _ _ _ us hl => match us, hl with | [_, _, _], _ => rfl
  have F18 := fun_mk (st := st18) l18 d18 e18
  refine ⟨PySem.W.fnOf "law" "law" (defArgs st18) (defBody st18) (defScope st18) .none kV18 dc18 pm18 an18 cd18 ct18, fun s v => .of_eq rfl, fun base _ _ => ?_⟩
  have g0 : GOk l.prog w K mg base CX0 Gm Phi 0 := GOk.zero (fun b => by cases b <;> first | exact PySem.W.mg_none_of X G z_len | exact PySem.W.mg_none_of X G z_abs | exact PySem.W.mg_none_of X G z_min | exact PySem.W.mg_none_of X G z_max | exact PySem.W.mg_none_of X G z_sum | exact PySem.W.mg_none_of X G z_all | exact PySem.W.mg_none_of X G z_any | exact PySem.W.mg_none_of X G z_int | exact PySem.W.mg_none_of X G z_str | exact PySem.W.mg_none_of X G z_list | exact PySem.W.mg_none_of X G z_tuple | exact PySem.W.mg_none_of X G z_sorted) ⟨PySem.W.mg_none_of X G z_range, PySem.W.mg_none_of X G z_zip, PySem.W.mg_none_of X G z_enumerate, PySem.W.mg_none_of X G z_isinstance, PySem.W.mg_none_of X G z_set, PySem.W.mg_none_of X G z_sorted, PySem.W.mg_none_of X G z_dict, PySem.W.mg_none_of X G z_reversed, PySem.W.mg_none_of X G z_bool⟩ rfl
  have g1 := g0.step (x := "halves_of") (m := 2) rfl (PySem.W.mg_of X G a0) e0 rfl b0 (def_ok F0 z0 g0 k0 len0 ok0)
  have g2 := g1.step (x := "ways_from") (m := 3) rfl (PySem.W.mg_of X G a1) e1 rfl b1 (def_ok F1 z1 g1 k1 len1 ok1)
  have g3 := g2.step (x := "way_to") (m := 2) rfl (PySem.W.mg_of X G a2) e2 rfl b2 (def_ok F2 z2 g2 k2 len2 ok2)
  have g4 := g3.step (x := "spares_of") (m := 3) rfl (PySem.W.mg_of X G a3) e3 rfl b3 (def_ok F3 z3 g3 k3 len3 ok3)
  have g5 := g4.step (x := "led_back") (m := 4) rfl (PySem.W.mg_of X G a4) e4 rfl b4 (def_ok F4 z4 g4 k4 len4 ok4)
  have g6 := g5.step (x := "circulation") (m := 2) rfl (PySem.W.mg_of X G a5) e5 rfl b5 (def_ok F5 z5 g5 k5 len5 ok5)
  have g7 := g6.step (x := "is_circling") (m := 3) rfl (PySem.W.mg_of X G a6) e6 rfl b6 (def_ok F6 z6 g6 k6 len6 ok6)
  have g8 := g7.step (x := "worth") (m := 2) rfl (PySem.W.mg_of X G a7) e7 rfl b7 (def_ok F7 z7 g7 k7 len7 ok7)
  have g9 := g8.step (x := "bound_by") (m := 2) rfl (PySem.W.mg_of X G a8) e8 rfl b8 (def_ok F8 z8 g8 k8 len8 ok8)
  have g10 := g9.step (x := "_law_drawn") (m := 2) rfl (PySem.W.mg_of X G a9) e9 rfl b9 (def_ok F9 z9 g9 k9 len9 ok9)
  have g11 := g10.step (x := "_law_room") (m := 2) rfl (PySem.W.mg_of X G a10) e10 rfl b10 (def_ok F10 z10 g10 k10 len10 ok10)
  have g12 := g11.step (x := "_law_worth") (m := 2) rfl (PySem.W.mg_of X G a11) e11 rfl b11 (def_ok F11 z11 g11 k11 len11 ok11)
  have g13 := g12.step (x := "_law_ring") (m := 3) rfl (PySem.W.mg_of X G a12) e12 rfl b12 (def_ok F12 z12 g12 k12 len12 ok12)
  have g14 := g13.step (x := "_law_ring_due") (m := 1) rfl (PySem.W.mg_of X G a13) e13 rfl b13 (def_ok F13 z13 g13 k13 len13 ok13)
  have g15 := g14.step (x := "_law_two") (m := 4) rfl (PySem.W.mg_of X G a14) e14 rfl b14 (def_ok F14 z14 g14 k14 len14 ok14)
  have g16 := g15.step (x := "_law_two_due") (m := 2) rfl (PySem.W.mg_of X G a15) e15 rfl b15 (def_ok F15 z15 g15 k15 len15 ok15)
  have g17 := g16.step (x := "_law_known") (m := 4) rfl (PySem.W.mg_of X G a16) e16 rfl b16 (def_ok F16 z16 g16 k16 len16 ok16)
  have g18 := g17.step (x := "_law_order") (m := 3) rfl (PySem.W.mg_of X G a17) e17 rfl b17 (def_ok F17 z17 g17 k17 len17 ok17)
  exact def_ok F18 z18 g18 k18 len18 ok18
end K05
open PySem PySem.W PyProof.Rows
set_option maxHeartbeats 0 in
theorem PySem.Challenge.cw_hourring_k05_rounds_known_holds : PySem.Challenge.rw_hourring_k05_rounds_known.Holds := by
  w_on; o_law; k_head; (case hw => w_witness2)
  k_fill
  refine MP.walk_ofM (l := PySem.Challenge.rw_hourring_k05_rounds_known) (n := 63) (k := 19) (x := "_law_script") (sp := K05.Phi 18) rfl (by decide) rfl ⟨rfl, by decide, by decide⟩ (fun w h Y => PySem.W.kIn_of Y) rfl ?F
  case F =>
    intro w mg fa h KX G hmg
    refine' K05.all_mk KX G hmg ?a0 ?l0 ?d0 ?e0 ?a1 ?l1 ?d1 ?e1 ?a2 ?l2 ?d2 ?e2 ?a3 ?l3 ?d3 ?e3 ?a4 ?l4 ?d4 ?e4 ?a5 ?l5 ?d5 ?e5 ?a6 ?l6 ?d6 ?e6 ?a7 ?l7 ?d7 ?e7 ?a8 ?l8 ?d8 ?e8 ?a9 ?l9 ?d9 ?e9 ?a10 ?l10 ?d10 ?e10 ?a11 ?l11 ?d11 ?e11 ?a12 ?l12 ?d12 ?e12 ?a13 ?l13 ?d13 ?e13 ?a14 ?l14 ?d14 ?e14 ?a15 ?l15 ?d15 ?e15 ?a16 ?l16 ?d16 ?e16 ?a17 ?l17 ?d17 ?e17 ?a18 ?l18 ?d18 ?e18 ?z_len ?z_abs ?z_min ?z_max ?z_sum ?z_all ?z_any ?z_int ?z_str ?z_list ?z_tuple ?z_range ?z_zip ?z_enumerate ?z_isinstance ?z_set ?z_sorted ?z_dict ?z_reversed ?z_bool
    (case a0 => k_is); (case l0 => k_is); (case d0 => k_is); (case e0 => k_is); (case a1 => k_is); (case l1 => k_is); (case d1 => k_is); (case e1 => k_is); (case a2 => k_is); (case l2 => k_is); (case d2 => k_is); (case e2 => k_is); (case a3 => k_is); (case l3 => k_is); (case d3 => k_is); (case e3 => k_is); (case a4 => k_is); (case l4 => k_is); (case d4 => k_is); (case e4 => k_is); (case a5 => k_is); (case l5 => k_is); (case d5 => k_is); (case e5 => k_is); (case a6 => k_is); (case l6 => k_is); (case d6 => k_is); (case e6 => k_is); (case a7 => k_is); (case l7 => k_is); (case d7 => k_is); (case e7 => k_is); (case a8 => k_is); (case l8 => k_is); (case d8 => k_is); (case e8 => k_is); (case a9 => k_is); (case l9 => k_is); (case d9 => k_is); (case e9 => k_is); (case a10 => k_is); (case l10 => k_is); (case d10 => k_is); (case e10 => k_is); (case a11 => k_is); (case l11 => k_is); (case d11 => k_is); (case e11 => k_is); (case a12 => k_is); (case l12 => k_is); (case d12 => k_is); (case e12 => k_is); (case a13 => k_is); (case l13 => k_is); (case d13 => k_is); (case e13 => k_is); (case a14 => k_is); (case l14 => k_is); (case d14 => k_is); (case e14 => k_is); (case a15 => k_is); (case l15 => k_is); (case d15 => k_is); (case e15 => k_is); (case a16 => k_is); (case l16 => k_is); (case d16 => k_is); (case e16 => k_is); (case a17 => k_is); (case l17 => k_is); (case d17 => k_is); (case e17 => k_is); (case a18 => k_is); (case l18 => k_is); (case d18 => k_is); (case e18 => k_is); (case z_len => k_is); (case z_abs => k_is); (case z_min => k_is); (case z_max => k_is); (case z_sum => k_is); (case z_all => k_is); (case z_any => k_is); (case z_int => k_is); (case z_str => k_is); (case z_list => k_is); (case z_tuple => k_is); (case z_range => k_is); (case z_zip => k_is); (case z_enumerate => k_is); (case z_isinstance => k_is); (case z_set => k_is); (case z_sorted => k_is); (case z_dict => k_is); (case z_reversed => k_is); (case z_bool => k_is)

