import PyProof.Rows.All
import Wide.All
import OpenK.AllK
import Wide.FinOn
import HandS.ForMost
import HandS.Flow
import HandS.Wide
import HandS.Style
import HandS.Deep
import HandS.IsInst
import HandS.Zip
import KE.DataCmp
import KE.DataMinMax
import KE.SortData
import PyProof.ReprRoads
import HandS.TupAny
import HandS.TupLen
import KE.KDictPairs
import HandS.Conv
import HandS.NoneIn
import KE.KDictZip
import KE.KItemsList
import PyProof.MaxThree
import HandS.ExcOwn
import HandS.TupSets
import KE.KRevSl
import KE.KDictCopyH
import HandS.Words
import HandS.Ends
import PySem.Challenge.RW_hourring_k07_whole_none_moves_more
set_option Elab.async false
set_option linter.all false
set_option maxRecDepth 100000
set_option maxHeartbeats 4000000
/-! MP1: values by data, cells of an abstract store, and how they stand in the layer's heap. -/
namespace MP
open PySem PySem.Spec PyProof.Rows L2

/-- a value: tuples and frozen lists by value; what may be changed by its address -/
inductive W where
  | non | bl (b : Bool) | int (i : Int) | str (x : Str) | ref (a : Addr) | tup (xs : List W) | lst (xs : List W)
/-- a cell that may be changed; lk: one that is being walked, only read -/
inductive Ob where
  | lst (xs : List W) | dk (kvs : List (Key × W)) | dt (kvs : List (List Key × W)) | ins (C : Addr) (fs : List (Str × W)) | lk (o : Ob) (od : Obj) (u : HO)
abbrev Sto := Addr → Option Ob
def sup (S : Sto) (a : Addr) (o : Ob) : Sto := fun b => if b = a then some o else S b
def sdel (S : Sto) (a : Addr) : Sto := fun b => if b = a then none else S b
theorem sup_same {S : Sto} {a : Addr} {o : Ob} : sup S a o a = some o := by unfold sup; rw [if_pos rfl]
theorem sup_ne {S : Sto} {a b : Addr} {o : Ob} (h : b ≠ a) : sup S a o b = S b := by unfold sup; rw [if_neg h]
theorem sdel_same {S : Sto} {a : Addr} : sdel S a a = none := by unfold sdel; rw [if_pos rfl]
theorem sdel_ne {S : Sto} {a b : Addr} (h : b ≠ a) : sdel S a b = S b := by unfold sdel; rw [if_neg h]
theorem sup_sup {S : Sto} {a : Addr} {o u : Ob} : sup (sup S a o) a u = sup S a u := by
  funext b; unfold sup; split <;> rfl
theorem sdel_sup {S : Sto} {a : Addr} {o : Ob} (h : S a = none) : sdel (sup S a o) a = S := by
  funext b; unfold sdel sup; split
  · rename_i e; rw [e]; exact h.symm
  · rfl
theorem sup_eq {S : Sto} {a : Addr} {o : Ob} (h : S a = some o) : sup S a o = S := by
  funext b; unfold sup; split
  · rename_i e; rw [e]; exact h.symm
  · rfl
theorem sne_of {S : Sto} {a p : Addr} {o : Ob} (h : S a = some o) (hp : S p = none) : a ≠ p := by
  intro e; subst e; rw [h] at hp; cases hp

/-! ### how a value stands -/
/-- the written part; addresses that are hidden (a list that a comprehension is making) -/
structure KH where
  K : PySem.W.Frag
  h : Addr → Bool
/-- a list that stands in the written part -/
def SqK (K : PySem.W.Frag) (a : Addr) (xs : List V) : Prop := ∃ (its : Array Value) (n : Nat), K.lookup a = some { cls := .type "list", data := .seq its n } ∧ its.size ≤ sizeLine ∧ Vals xs its.toList
def SqR (K : PySem.W.Frag) (H : Hp) (a : Addr) (xs : List V) : Prop := Rd H a (.lst xs) ∨ SqK K a xs
theorem SqR.sq {K : PySem.W.Frag} {H : Hp} {a : Addr} {xs : List V} (h : SqR K H a xs) : SqL K H a xs := by
  rcases h with h | ⟨its, n, h1, h2, h3⟩
  · exact .inl h
  · exact .inr ⟨_, its, n, h1, rfl, rfl, rfl, h2, h3⟩
mutual
inductive Rep (K : KH) (F : Hp) : W → V → Prop
  | non : Rep K F .non .non
  | bl (b : Bool) : Rep K F (.bl b) (.bl b)
  | int (i : Int) : Rep K F (.int i) (.int i)
  | str (x : Str) : Rep K F (.str x) (.str x)
  | ref (a : Addr) : Rep K F (.ref a) (.ref a)
  | tup {a : Addr} {vs : List V} {ws : List W} : K.h a = false → F a = some (.tup vs) → RepL K F ws vs → Rep K F (.tup ws) (.ref a)
  | lst {a : Addr} {vs : List V} {ws : List W} : K.h a = false → Rd F a (.lst vs) → RepL K F ws vs → Rep K F (.lst ws) (.ref a)
  | klst {a : Addr} {vs : List V} {ws : List W} : SqK K.K a vs → RepL K F ws vs → Rep K F (.lst ws) (.ref a)
inductive RepL (K : KH) (F : Hp) : List W → List V → Prop
  | nil : RepL K F [] []
  | cons {w : W} {ws : List W} {v : V} {vs : List V} : Rep K F w v → RepL K F ws vs → RepL K F (w :: ws) (v :: vs)
end
theorem same_rd {H H' : Hp} {a : Addr} {u : HO} (e : Same H H') (h : Rd H a u) : Rd H' a u := by
  rcases h with h | ⟨o, h⟩
  · exact .inl (e _ _ h)
  · exact .inr ⟨o, e _ _ h⟩
mutual
theorem Rep.mono {K : KH} {F F' : Hp} (e : Same F F') : ∀ {w : W} {v : V}, Rep K F w v → Rep K F' w v
  | _, _, .non => .non
  | _, _, .bl b => .bl b
  | _, _, .int i => .int i
  | _, _, .str x => .str x
  | _, _, .ref a => .ref a
  | _, _, .tup n h r => .tup n (e _ _ h) (RepL.mono e r)
  | _, _, .lst n h r => .lst n (same_rd e h) (RepL.mono e r)
  | _, _, .klst h r => .klst h (RepL.mono e r)
theorem RepL.mono {K : KH} {F F' : Hp} (e : Same F F') : ∀ {ws : List W} {vs : List V}, RepL K F ws vs → RepL K F' ws vs
  | _, _, .nil => .nil
  | _, _, .cons h r => .cons (Rep.mono e h) (RepL.mono e r)
end
section
variable {K : KH} {F F' : Hp}
theorem RepL.length : ∀ {ws : List W} {vs : List V}, RepL K F ws vs → ws.length = vs.length
  | _, _, .nil => rfl
  | _, _, .cons _ r => by rw [List.length_cons, List.length_cons, RepL.length r]
theorem RepL.get : ∀ {ws : List W} {vs : List V} {i : Nat} {w : W}, RepL K F ws vs → ws[i]? = some w → ∃ v, vs[i]? = some v ∧ Rep K F w v
  | _, _, _, _, .nil, e => by simp at e
  | _, _, 0, _, .cons h _, e => by simp at e; subst e; exact ⟨_, rfl, h⟩
  | _, _, i + 1, w, .cons _ r, e => by
    obtain ⟨v, h1, h2⟩ := RepL.get (i := i) (w := w) r (by simpa using e)
    exact ⟨v, by simpa using h1, h2⟩
theorem RepL.get' : ∀ {ws : List W} {vs : List V} {i : Nat} {v : V}, RepL K F ws vs → vs[i]? = some v → ∃ w, ws[i]? = some w ∧ Rep K F w v
  | _, _, _, _, .nil, e => by simp at e
  | _, _, 0, _, .cons h _, e => by simp at e; subst e; exact ⟨_, rfl, h⟩
  | _, _, i + 1, v, .cons _ r, e => by
    obtain ⟨w, h1, h2⟩ := RepL.get' (i := i) (v := v) r (by simpa using e)
    exact ⟨w, by simpa using h1, h2⟩
theorem RepL.append : ∀ {xs ys : List W} {us vs : List V}, RepL K F xs us → RepL K F ys vs → RepL K F (xs ++ ys) (us ++ vs)
  | _, _, _, _, .nil, s => s
  | _, _, _, _, .cons h r, s => .cons h (RepL.append r s)
theorem RepL.take : ∀ {ws : List W} {vs : List V} (n : Nat), RepL K F ws vs → RepL K F (ws.take n) (vs.take n)
  | _, _, 0, _ => .nil
  | _, _, _ + 1, .nil => .nil
  | _, _, n + 1, .cons h r => .cons h (RepL.take n r)
theorem RepL.drop : ∀ {ws : List W} {vs : List V} (n : Nat), RepL K F ws vs → RepL K F (ws.drop n) (vs.drop n)
  | _, _, 0, r => r
  | _, _, _ + 1, .nil => .nil
  | _, _, n + 1, .cons _ r => RepL.drop n r
theorem RepL.set {w : W} {v : V} (h : Rep K F w v) : ∀ {ws : List W} {vs : List V} (i : Nat), RepL K F ws vs → RepL K F (ws.set i w) (vs.set i v)
  | _, _, _, .nil => .nil
  | _, _, 0, .cons _ r => .cons h r
  | _, _, i + 1, .cons q r => .cons q (RepL.set h i r)
theorem RepL.reverse {ws : List W} {vs : List V} (r : RepL K F ws vs) : RepL K F ws.reverse vs.reverse := by
  induction ws generalizing vs with
  | nil => cases r; exact .nil
  | cons w ws ih =>
    cases r with
    | cons h r =>
      rw [List.reverse_cons, List.reverse_cons]
      exact (ih r).append (.cons h .nil)
theorem RepL.rep {ws : List W} {vs : List V} (r : RepL K F ws vs) : ∀ k : Nat, RepL K F (List.replicate k ws).flatten (List.replicate k vs).flatten
  | 0 => .nil
  | k + 1 => by
    rw [List.replicate_succ, List.replicate_succ, List.flatten_cons, List.flatten_cons]
    exact r.append (r.rep k)
theorem RepL.dropLast {ws : List W} {vs : List V} (r : RepL K F ws vs) : RepL K F ws.dropLast vs.dropLast := by
  rw [List.dropLast_eq_take, List.dropLast_eq_take, r.length]
  exact r.take _
theorem RepL.eraseIdx : ∀ {ws : List W} {vs : List V} (i : Nat), RepL K F ws vs → RepL K F (ws.eraseIdx i) (vs.eraseIdx i)
  | _, _, _, .nil => .nil
  | _, _, 0, .cons _ r => r
  | _, _, i + 1, .cons h r => .cons h (RepL.eraseIdx i r)
theorem RepL.split {xs : List W} : ∀ {ys : List W} {vs : List V}, RepL K F (xs ++ ys) vs → ∃ us us', vs = us ++ us' ∧ RepL K F xs us ∧ RepL K F ys us' := by
  induction xs with
  | nil => intro ys vs r; exact ⟨[], vs, rfl, .nil, r⟩
  | cons x xs ih =>
    intro ys vs r
    cases r with
    | cons h r =>
      obtain ⟨us, us', rfl, a, b⟩ := ih r
      exact ⟨_ :: us, us', rfl, .cons h a, b⟩
theorem RepL.ints : ∀ {ns : List Int} {vs : List V}, RepL K F (ns.map W.int) vs → vs = ns.map V.int
  | [], _, .nil => rfl
  | n :: ns, _, .cons h r => by
    cases h
    rw [RepL.ints r]
    rfl
theorem RepL.strs : ∀ {ns : List Str} {vs : List V}, RepL K F (ns.map W.str) vs → vs = ns.map V.str
  | [], _, .nil => rfl
  | n :: ns, _, .cons h r => by
    cases h
    rw [RepL.strs r]
    rfl
theorem RepL.bls : ∀ {ns : List Bool} {vs : List V}, RepL K F (ns.map W.bl) vs → vs = ns.map V.bl
  | [], _, .nil => rfl
  | n :: ns, _, .cons h r => by
    cases h
    rw [RepL.bls r]
    rfl
theorem RepL.ofInts : ∀ {ns : List Int}, RepL K F (ns.map W.int) (ns.map V.int)
  | [] => .nil
  | n :: ns => .cons (.int n) RepL.ofInts
theorem RepL.ofStrs : ∀ {ns : List Str}, RepL K F (ns.map W.str) (ns.map V.str)
  | [] => .nil
  | n :: ns => .cons (.str n) RepL.ofStrs
end

/-! ### cells -/
/-- the layer's heap without the cells -/
def fz (S : Sto) (H : Hp) : Hp := fun b => if (S b).isSome then none else H b
theorem fz_none {S : Sto} {H : Hp} {b : Addr} (h : S b = none) : fz S H b = H b := by
  unfold fz; rw [h]; rfl
theorem fz_some {S : Sto} {H : Hp} {b : Addr} {o : HO} (h : fz S H b = some o) : S b = none ∧ H b = some o := by
  unfold fz at h
  cases e : S b with
  | none => rw [e] at h; exact ⟨rfl, h⟩
  | some u => rw [e] at h; cases h
theorem fz_sub {S : Sto} {H : Hp} : Same (fz S H) H := fun _ _ h => (fz_some h).2
abbrev KVR {κ : Type} (K : KH) (F : Hp) : List (κ × W) → List (κ × V) → Prop := Paired fun p q => p.1 = q.1 ∧ Rep K F p.2 q.2
/-- what stands for a cell's content -/
def ObR (K : KH) (F H : Hp) (a : Addr) : Ob → HO → Prop
  | .lst ws, u => ∃ vs, u = .lst vs ∧ RepL K F ws vs
  | .dk kvs, u => ∃ kv', u = .dK kv' ∧ KVR K F kvs kv'
  | .dt kvs, u => ∃ kv', u = .dT kv' ∧ KVR K F kvs kv'
  | .ins C fs, u => ∃ dx fs', u = .ins C dx fs' ∧ KVR K F fs fs'
  | .lk o od u', u => u = .frz od u' ∧ ObR K F H a o u'
theorem KVR.mono {κ : Type} {K : KH} {F F' : Hp} (e : Same F F') {kvs : List (κ × W)} {kv' : List (κ × V)} (r : KVR K F kvs kv') : KVR K F' kvs kv' :=
  Paired.mapP r fun _ _ z => ⟨z.1, z.2.mono e⟩
theorem ObR.mono {K : KH} {F F' H H' : Hp} {a : Addr} (e : Same F F') : ∀ {o : Ob} {u : HO}, ObR K F H a o u → ObR K F' H' a o u
  | .lst _, _, ⟨vs, h, r⟩ => ⟨vs, h, r.mono e⟩
  | .dk _, _, ⟨kv', h, r⟩ => ⟨kv', h, r.mono e⟩
  | .dt _, _, ⟨kv', h, r⟩ => ⟨kv', h, r.mono e⟩
  | .ins _ _, _, ⟨dx, fs', h, r⟩ => ⟨dx, fs', h, r.mono e⟩
  | .lk o _ _, _, ⟨h, r⟩ => ⟨h, ObR.mono (o := o) e r⟩
/-- no tuple -/
def noTup : HO → Prop
  | .tup _ => False
  | _ => True
structure StoOk (K : KH) (S : Sto) (H : Hp) : Prop where
  at' : ∀ a o, S a = some o → ∃ u, H a = some u ∧ ObR K (fz S H) H a o u
  hid : ∀ a, K.h a = true → S a = none ∧ ∃ u, H a = some u ∧ noTup u
section
variable {K : KH} {S S' : Sto} {H H' : Hp} {p a : Addr} {o u : HO} {ob : Ob}
theorem StoOk.free (k : StoOk K S H) (h : H p = none) : S p = none := by
  cases e : S p with
  | none => rfl
  | some u =>
    obtain ⟨v, hv, _⟩ := k.at' p u e
    rw [hv] at h; cases h
/-- a new thing, frozen -/
theorem same_new (k : StoOk K S H) (h : H p = none) : Same (fz S H) (fz S (upd H p o)) := fun b u e => by
  obtain ⟨h1, h2⟩ := fz_some e
  rw [fz_none h1, upd_ne (ne_of_none h2 h)]
  exact h2
theorem fz_new (k : StoOk K S H) (h : H p = none) : fz S (upd H p o) p = some o := by
  rw [fz_none (k.free h), upd_same]
theorem StoOk.nohid (k : StoOk K S H) (h : H p = none) : K.h p = false := by
  cases e : K.h p with
  | false => rfl
  | true =>
    obtain ⟨_, u, hu, _⟩ := k.hid p e
    rw [h] at hu; cases hu
/-- what is hidden stays -/
theorem StoOk.hidTo (k : StoOk K S H) (e : Same (fz S H) (fz S' H')) : ∀ a, K.h a = true → S' a = none ∧ ∃ u, H' a = some u ∧ noTup u := fun a h => by
  obtain ⟨h1, u, h2, hn⟩ := k.hid a h
  obtain ⟨h3, h4⟩ := fz_some (e a u (by rw [fz_none h1]; exact h2))
  exact ⟨h3, u, h4, hn⟩
theorem StoOk.new (k : StoOk K S H) (h : H p = none) : StoOk K S (upd H p o) := ⟨fun b u e => by
  obtain ⟨v, hv, r⟩ := k.at' b u e
  exact ⟨v, by rw [upd_ne (ne_of_none hv h)]; exact hv, r.mono (same_new k h)⟩, k.hidTo (same_new k h)⟩
/-- a new thing, a cell -/
theorem same_newc (k : StoOk K S H) (h : H p = none) : Same (fz S H) (fz (sup S p ob) (upd H p o)) := fun b u e => by
  obtain ⟨h1, h2⟩ := fz_some e
  have hb := ne_of_none h2 h
  rw [fz_none (by rw [sup_ne hb]; exact h1), upd_ne hb]
  exact h2
theorem StoOk.newc (k : StoOk K S H) (h : H p = none) (r : ObR K (fz S H) H p ob o) : StoOk K (sup S p ob) (upd H p o) := ⟨fun b u e => by
  by_cases hb : b = p
  · subst hb
    rw [sup_same] at e; cases e
    exact ⟨o, upd_same, r.mono (same_newc k h)⟩
  · rw [sup_ne hb] at e
    obtain ⟨v, hv, q⟩ := k.at' b u e
    exact ⟨v, by rw [upd_ne hb]; exact hv, q.mono (same_newc k h)⟩, k.hidTo (same_newc k h)⟩
/-- a cell is changed -/
theorem fz_put {ob' : Ob} (h : S a = some ob') : fz (sup S a ob) (upd H a o) = fz S H := by
  funext b
  by_cases hb : b = a
  · subst hb
    unfold fz
    rw [sup_same, h]
    rfl
  · unfold fz
    rw [sup_ne hb, upd_ne hb]
theorem StoOk.put {ob' : Ob} (k : StoOk K S H) (h : S a = some ob') (r : ObR K (fz S H) H a ob o) : StoOk K (sup S a ob) (upd H a o) := ⟨fun b u e => by
  rw [fz_put h]
  by_cases hb : b = a
  · subst hb
    rw [sup_same] at e; cases e
    exact ⟨o, upd_same, r.mono (Same.refl _)⟩
  · rw [sup_ne hb] at e
    obtain ⟨v, hv, q⟩ := k.at' b u e
    exact ⟨v, by rw [upd_ne hb]; exact hv, q.mono (Same.refl _)⟩, k.hidTo (by rw [fz_put h]; exact Same.refl _)⟩
/-- a cell is no longer changed -/
theorem same_del : Same (fz S H) (fz (sdel S a) H) := fun b u e => by
  obtain ⟨h1, h2⟩ := fz_some e
  have : sdel S a b = none := by unfold sdel; split <;> first | rfl | exact h1
  rw [fz_none this]
  exact h2
theorem StoOk.del (k : StoOk K S H) : StoOk K (sdel S a) H := ⟨fun b u e => by
  by_cases hb : b = a
  · subst hb; rw [sdel_same] at e; cases e
  · rw [sdel_ne hb] at e
    obtain ⟨v, hv, q⟩ := k.at' b u e
    exact ⟨v, hv, q.mono same_del⟩, k.hidTo same_del⟩
/-- fewer cells -/
def Fewer (S' S : Sto) : Prop := ∀ a o, S' a = some o → S a = some o
theorem same_fewer (f : Fewer S' S) : Same (fz S H) (fz S' H) := fun b u e => by
  obtain ⟨h1, h2⟩ := fz_some e
  have : S' b = none := by
    cases q : S' b with
    | none => rfl
    | some v => rw [f b v q] at h1; cases h1
  rw [fz_none this]
  exact h2
theorem StoOk.fewer (k : StoOk K S H) (f : Fewer S' S) : StoOk K S' H := ⟨fun b u e => by
  obtain ⟨v, hv, q⟩ := k.at' b u (f b u e)
  exact ⟨v, hv, q.mono (same_fewer f)⟩, k.hidTo (same_fewer f)⟩
end

/-! ### names -/
abbrev Env := List (Option W)
structure Sim (K : KH) (ρ : Env) (σ : L2.St) (S : Sto) (H : Hp) : Prop where
  var : ∀ (i : Nat) (w : W), ρ[i]? = some (some w) → ∃ v, σ[i]? = some (some v) ∧ Rep K (fz S H) w v
  len : ρ.length = σ.length
  sto : StoOk K S H
section
variable {K : KH} {ρ : Env} {σ : L2.St} {S S' : Sto} {H H' : Hp}
theorem Sim.to (s : Sim K ρ σ S H) (e : Same (fz S H) (fz S' H')) (k : StoOk K S' H') : Sim K ρ σ S' H' :=
  ⟨fun i w h => let ⟨v, h1, h2⟩ := s.var i w h; ⟨v, h1, h2.mono e⟩, s.len, k⟩
theorem Sim.set {i : Nat} {w : W} {v : V} (s : Sim K ρ σ S H) (r : Rep K (fz S H) w v) : Sim K (ρ.set i (some w)) (σ.set i (some v)) S H := by
  refine ⟨fun j u h => ?_, by rw [List.length_set, List.length_set]; exact s.len, s.sto⟩
  by_cases e : i = j
  · subst e
    by_cases hl : i < ρ.length
    · rw [List.getElem?_set_self hl] at h
      cases h
      exact ⟨v, List.getElem?_set_self (s.len ▸ hl), r⟩
    · rw [List.getElem?_eq_none (by rw [List.length_set]; omega)] at h
      cases h
  · rw [List.getElem?_set_ne e] at h
    obtain ⟨v', h1, h2⟩ := s.var j u h
    exact ⟨v', by rw [List.getElem?_set_ne e]; exact h1, h2⟩
end

/-! ### a hidden thing is changed -/
section
variable {K : KH} {D : Addr} {o : HO}
mutual
theorem Rep.hidden {F F' : Hp} (hD : K.h D = true) (e : ∀ b, b ≠ D → F' b = F b) : ∀ {w : W} {v : V}, Rep K F w v → Rep K F' w v
  | _, _, .non => .non
  | _, _, .bl b => .bl b
  | _, _, .int i => .int i
  | _, _, .str x => .str x
  | _, _, .ref a => .ref a
  | _, _, .tup (a := a) n h r => .tup n (by rw [e a (fun z => by rw [z, hD] at n; cases n)]; exact h) (RepL.hidden hD e r)
  | _, _, .klst h r => .klst h (RepL.hidden hD e r)
  | _, _, .lst (a := a) n h r => .lst n (by
      have ha := e a (fun z => by rw [z, hD] at n; cases n)
      rcases h with h | ⟨o, h⟩
      · exact .inl (by rw [ha]; exact h)
      · exact .inr ⟨o, by rw [ha]; exact h⟩) (RepL.hidden hD e r)
theorem RepL.hidden {F F' : Hp} (hD : K.h D = true) (e : ∀ b, b ≠ D → F' b = F b) : ∀ {ws : List W} {vs : List V}, RepL K F ws vs → RepL K F' ws vs
  | _, _, .nil => .nil
  | _, _, .cons h r => .cons (Rep.hidden hD e h) (RepL.hidden hD e r)
end
theorem KVR.hidden {κ : Type} {F F' : Hp} (hD : K.h D = true) (e : ∀ b, b ≠ D → F' b = F b) {kvs : List (κ × W)} {kv' : List (κ × V)} (r : KVR K F kvs kv') : KVR K F' kvs kv' :=
  Paired.mapP r fun _ _ z => ⟨z.1, z.2.hidden hD e⟩
theorem ObR.hidden {F F' H H' : Hp} {a : Addr} (hD : K.h D = true) (e : ∀ b, b ≠ D → F' b = F b) : ∀ {o : Ob} {u : HO}, ObR K F H a o u → ObR K F' H' a o u
  | .lst _, _, ⟨vs, h, r⟩ => ⟨vs, h, r.hidden hD e⟩
  | .dk _, _, ⟨kv', h, r⟩ => ⟨kv', h, r.hidden hD e⟩
  | .dt _, _, ⟨kv', h, r⟩ => ⟨kv', h, r.hidden hD e⟩
  | .ins _ _, _, ⟨dx, fs', h, r⟩ => ⟨dx, fs', h, r.hidden hD e⟩
  | .lk o _ _, _, ⟨h, r⟩ => ⟨h, ObR.hidden (o := o) hD e r⟩
theorem fz_hid {S : Sto} {H : Hp} : ∀ b, b ≠ D → fz S (upd H D o) b = fz S H b := fun b hb => by
  unfold fz
  rw [upd_ne hb]
theorem StoOk.hidden {S : Sto} {H : Hp} (k : StoOk K S H) (hD : K.h D = true) (ho : noTup o := by trivial) : StoOk K S (upd H D o) := ⟨fun b u e => by
  obtain ⟨v, hv, q⟩ := k.at' b u e
  have hb : b ≠ D := fun z => by
    subst z
    rw [(k.hid b hD).1] at e; cases e
  exact ⟨v, by rw [upd_ne hb]; exact hv, q.hidden hD fz_hid⟩, fun a h => by
    obtain ⟨h1, u, h2⟩ := k.hid a h
    by_cases z : a = D
    · exact ⟨h1, o, by rw [z, upd_same], ho⟩
    · exact ⟨h1, u, by rw [upd_ne z]; exact h2.1, h2.2⟩⟩
theorem Sim.hidden {ρ : Env} {σ : L2.St} {S : Sto} {H : Hp} (s : Sim K ρ σ S H) (hD : K.h D = true) (ho : noTup o := by trivial) : Sim K ρ σ S (upd H D o) :=
  ⟨fun i w h => let ⟨v, h1, h2⟩ := s.var i w h; ⟨v, h1, h2.hidden hD fz_hid⟩, s.len, s.sto.hidden hD ho⟩
/-- one more is hidden: a new thing that nothing speaks of -/
def KH.more (K : KH) (D : Addr) : KH := ⟨K.K, fun b => K.h b || decide (b = D)⟩
theorem KH.more_at : (K.more D).h D = true := by unfold KH.more; simp
theorem KH.more_ne {b : Addr} (h : K.h b = false) (hb : b ≠ D) : (K.more D).h b = false := by unfold KH.more; simp [h, hb]
theorem KH.of_more {b : Addr} (h : (K.more D).h b = false) : K.h b = false := by
  unfold KH.more at h
  simp at h
  exact h.1
mutual
theorem Rep.hide {F F' : Hp} (hD : F D = none) (e : Same F F') : ∀ {w : W} {v : V}, Rep K F w v → Rep (K.more D) F' w v
  | _, _, .non => .non
  | _, _, .bl b => .bl b
  | _, _, .int i => .int i
  | _, _, .str x => .str x
  | _, _, .ref a => .ref a
  | _, _, .tup n h r => .tup (KH.more_ne n (ne_of_none h hD)) (e _ _ h) (RepL.hide hD e r)
  | _, _, .klst h r => .klst h (RepL.hide hD e r)
  | _, _, .lst (a := a) n h r => .lst (KH.more_ne n (by
      rcases h with h | ⟨o, h⟩
      · exact ne_of_none h hD
      · exact ne_of_none h hD)) (same_rd e h) (RepL.hide hD e r)
theorem RepL.hide {F F' : Hp} (hD : F D = none) (e : Same F F') : ∀ {ws : List W} {vs : List V}, RepL K F ws vs → RepL (K.more D) F' ws vs
  | _, _, .nil => .nil
  | _, _, .cons h r => .cons (Rep.hide hD e h) (RepL.hide hD e r)
end
mutual
theorem Rep.unhide {F : Hp} : ∀ {w : W} {v : V}, Rep (K.more D) F w v → Rep K F w v
  | _, _, .non => .non
  | _, _, .bl b => .bl b
  | _, _, .int i => .int i
  | _, _, .str x => .str x
  | _, _, .ref a => .ref a
  | _, _, .tup n h r => .tup (KH.of_more n) h (RepL.unhide r)
  | _, _, .lst n h r => .lst (KH.of_more n) h (RepL.unhide r)
  | _, _, .klst h r => .klst h (RepL.unhide r)
theorem RepL.unhide {F : Hp} : ∀ {ws : List W} {vs : List V}, RepL (K.more D) F ws vs → RepL K F ws vs
  | _, _, .nil => .nil
  | _, _, .cons h r => .cons (Rep.unhide h) (RepL.unhide r)
end
theorem KVR.hide {κ : Type} {F F' : Hp} (hD : F D = none) (e : Same F F') {kvs : List (κ × W)} {kv' : List (κ × V)} (r : KVR K F kvs kv') : KVR (K.more D) F' kvs kv' :=
  Paired.mapP r fun _ _ z => ⟨z.1, z.2.hide hD e⟩
theorem ObR.hide {F F' H H' : Hp} {a : Addr} (hD : F D = none) (e : Same F F') : ∀ {o : Ob} {u : HO}, ObR K F H a o u → ObR (K.more D) F' H' a o u
  | .lst _, _, ⟨vs, h, r⟩ => ⟨vs, h, r.hide hD e⟩
  | .dk _, _, ⟨kv', h, r⟩ => ⟨kv', h, r.hide hD e⟩
  | .dt _, _, ⟨kv', h, r⟩ => ⟨kv', h, r.hide hD e⟩
  | .ins _ _, _, ⟨dx, fs', h, r⟩ => ⟨dx, fs', h, r.hide hD e⟩
  | .lk o _ _, _, ⟨h, r⟩ => ⟨h, ObR.hide (o := o) hD e r⟩
theorem KVR.unhide {κ : Type} {F : Hp} {kvs : List (κ × W)} {kv' : List (κ × V)} (r : KVR (K.more D) F kvs kv') : KVR K F kvs kv' :=
  Paired.mapP r fun _ _ z => ⟨z.1, z.2.unhide⟩
theorem ObR.unhide {F H : Hp} {a : Addr} : ∀ {o : Ob} {u : HO}, ObR (K.more D) F H a o u → ObR K F H a o u
  | .lst _, _, ⟨vs, h, r⟩ => ⟨vs, h, r.unhide⟩
  | .dk _, _, ⟨kv', h, r⟩ => ⟨kv', h, r.unhide⟩
  | .dt _, _, ⟨kv', h, r⟩ => ⟨kv', h, r.unhide⟩
  | .ins _ _, _, ⟨dx, fs', h, r⟩ => ⟨dx, fs', h, r.unhide⟩
  | .lk o _ _, _, ⟨h, r⟩ => ⟨h, ObR.unhide (o := o) r⟩
theorem StoOk.hide {S : Sto} {H : Hp} (k : StoOk K S H) (hD : H D = none) (ho : noTup o := by trivial) : StoOk (K.more D) S (upd H D o) := by
  have hF : fz S H D = none := by
    unfold fz
    split <;> first | rfl | exact hD
  refine ⟨fun b u e => ?_, fun a h => ?_⟩
  · obtain ⟨v, hv, q⟩ := k.at' b u e
    exact ⟨v, by rw [upd_ne (ne_of_none hv hD)]; exact hv, q.hide hF (same_new k hD)⟩
  · by_cases z : a = D
    · subst z
      exact ⟨k.free hD, o, upd_same, ho⟩
    · have h' : K.h a = true := by
        unfold KH.more at h
        simpa [z] using h
      obtain ⟨h1, u, h2, h3⟩ := k.hid a h'
      exact ⟨h1, u, by rw [upd_ne z]; exact h2, h3⟩
theorem Sim.hide {ρ : Env} {σ : L2.St} {S : Sto} {H : Hp} (s : Sim K ρ σ S H) (hD : H D = none) (ho : noTup o := by trivial) : Sim (K.more D) ρ σ S (upd H D o) := by
  have hF : fz S H D = none := by
    unfold fz
    split <;> first | rfl | exact hD
  exact ⟨fun i w h => let ⟨v, h1, h2⟩ := s.var i w h; ⟨v, h1, h2.hide hF (same_new s.sto hD)⟩, s.len, s.sto.hide hD ho⟩
theorem StoOk.unhide {S : Sto} {H : Hp} (k : StoOk (K.more D) S H) : StoOk K S H := ⟨fun b u e => by
  obtain ⟨v, hv, q⟩ := k.at' b u e
  exact ⟨v, hv, q.unhide⟩, fun a h => k.hid a (by unfold KH.more; simp [h])⟩
theorem Sim.unhide {ρ : Env} {σ : L2.St} {S : Sto} {H : Hp} (s : Sim (K.more D) ρ σ S H) : Sim K ρ σ S H :=
  ⟨fun i w h => let ⟨v, h1, h2⟩ := s.var i w h; ⟨v, h1, h2.unhide⟩, s.len, s.sto.unhide⟩
mutual
/-- the hidden ones matter only where something stands -/
theorem Rep.agree {K : KH} {h' : Addr → Bool} {F : Hp} (h : ∀ b o, F b = some o → h' b = K.h b) : ∀ {w : W} {v : V}, Rep K F w v → Rep ⟨K.K, h'⟩ F w v
  | _, _, .non => .non
  | _, _, .bl b => .bl b
  | _, _, .int i => .int i
  | _, _, .str x => .str x
  | _, _, .ref a => .ref a
  | _, _, .tup n e r => .tup (by show h' _ = false; rw [h _ _ e]; exact n) e (RepL.agree h r)
  | _, _, .klst q r => .klst q (RepL.agree h r)
  | _, _, .lst n e r => .lst (by
      rcases e with e | ⟨o, e⟩
      · show h' _ = false; rw [h _ _ e]; exact n
      · show h' _ = false; rw [h _ _ e]; exact n) e (RepL.agree h r)
theorem RepL.agree {K : KH} {h' : Addr → Bool} {F : Hp} (h : ∀ b o, F b = some o → h' b = K.h b) : ∀ {ws : List W} {vs : List V}, RepL K F ws vs → RepL ⟨K.K, h'⟩ F ws vs
  | _, _, .nil => .nil
  | _, _, .cons e r => .cons (Rep.agree h e) (RepL.agree h r)
end
/-- a hidden list becomes a cell -/
theorem Sim.cell {ρ : Env} {σ : L2.St} {S : Sto} {H : Hp} {ws : List W} {vs : List V} (s : Sim (K.more D) ρ σ S H) (nD : K.h D = false) (h : H D = some (.lst vs)) (r : RepL (K.more D) (fz S H) ws vs) : Sim K ρ σ (sup S D (.lst ws)) H := by
  have hS := (s.sto.hid D KH.more_at).1
  have e : ∀ b, b ≠ D → fz (sup S D (.lst ws)) H b = fz S H b := fun b hb => by
    unfold fz
    rw [sup_ne hb]
  refine ⟨fun i w q => ?_, s.len, ⟨fun b u q => ?_, fun a q => ?_⟩⟩
  · obtain ⟨v, h1, h2⟩ := s.var i w q
    exact ⟨v, h1, (h2.hidden KH.more_at e).unhide⟩
  · by_cases hb : b = D
    · subst hb
      rw [sup_same] at q; cases q
      exact ⟨_, h, vs, rfl, (r.hidden KH.more_at e).unhide⟩
    · rw [sup_ne hb] at q
      obtain ⟨v, hv, z⟩ := s.sto.at' b u q
      exact ⟨v, hv, (z.hidden KH.more_at e).unhide⟩
  · obtain ⟨h1, u, h2⟩ := s.sto.hid a (by unfold KH.more; simp [q])
    by_cases z : a = D
    · subst z
      rw [nD] at q; cases q
    · exact ⟨by rw [sup_ne z]; exact h1, u, h2⟩
end
end MP

set_option Elab.async false
set_option linter.all false
set_option maxRecDepth 100000
set_option maxHeartbeats 4000000
/-! MP2: the core language and what it asks (wp), over plain values. -/
namespace MP
open PySem PySem.Spec PyProof.Rows L2

structure Exn where
  cls : Addr
  nm : Option W
abbrev WK := W → Sto → Prop
abbrev XC := Exn → Sto → Prop
abbrev WE := Env → Sto → WK → XC → Prop

/-! ### reading values -/
def obL : Ob → Option (List W)
  | .lst ws => some ws
  | .lk (.lst ws) _ _ => some ws
  | _ => none
def rdL (S : Sto) : W → Option (List W)
  | .lst ws => some ws
  | .ref a => (S a).bind obL
  | _ => none
/-- a list or a tuple -/
def rdQ (S : Sto) : W → Option (List W)
  | .tup ws => some ws
  | w => rdL S w
def obK : Ob → Option (List (Key × W))
  | .dk kvs => some kvs
  | .lk (.dk kvs) _ _ => some kvs
  | _ => none
def obT : Ob → Option (List (List Key × W))
  | .dt kvs => some kvs
  | .lk (.dt kvs) _ _ => some kvs
  | _ => none
def keyW : W → Option Key
  | .int i => some (.inl i)
  | .str x => some (.inr x)
  | _ => none
def keysW : List W → Option (List Key)
  | [] => some []
  | w :: ws => (keyW w).bind fun k => (keysW ws).map (k :: ·)
def wKey : Key → W
  | .inl i => .int i
  | .inr x => .str x
section
variable {κ : Type} [DecidableEq κ]
def getK (kvs : List (κ × W)) (k : κ) : Option W := (kvs.find? fun kv => decide (kv.1 = k)).map (·.2)
def setK (kvs : List (κ × W)) (k : κ) (v : W) : List (κ × W) :=
  if (kvs.any fun kv => decide (kv.1 = k)) = true then kvs.map (fun kv => if kv.1 = k then (kv.1, v) else kv) else kvs ++ [(k, v)]
def delK (kvs : List (κ × W)) (k : κ) : List (κ × W) := kvs.filter fun kv => decide (kv.1 ≠ k)
end
/-- what a dict's cell holds at a key: none where the key doesn't fit the dict -/
def rdD (S : Sto) (d k : W) : Option (Option W) :=
  match d with
  | .ref a => (S a).bind fun o =>
    match obK o, obT o, k with
    | some kvs, _, k => (keyW k).map fun k => getK kvs k
    | none, some kvs, .tup ks => (keysW ks).map fun k => getK kvs k
    | _, _, _ => none
  | _ => none

/-! ### truth, equality -/
def truW (S : Sto) : W → Option Bool
  | .non => some false
  | .bl b => some b
  | .int i => some (i != 0)
  | .str x => if x.length ≤ sizeLine then some ((x.length : Int) != 0) else none
  | .tup ws => some !ws.isEmpty
  | .lst ws => some !ws.isEmpty
  | .ref a => (S a).bind fun o => match o with
    | .lst ws => some !ws.isEmpty
    | .dk kvs => some !kvs.isEmpty
    | _ => none
mutual
/-- plain data: no cell within -/
def datW : W → PyData
  | .non => .none
  | .bl b => .bool b
  | .int i => .int i
  | .str x => .str x
  | .tup ws => .tuple (datL ws)
  | .lst ws => .list (datL ws)
  | .ref _ => .none
def datL : List W → List PyData
  | [] => []
  | w :: ws => datW w :: datL ws
end
mutual
/-- a value as data, cells of lists read -/
inductive Vw (S : Sto) : W → PyData → Prop
  | non : Vw S .non .none
  | bl (b : Bool) : Vw S (.bl b) (.bool b)
  | int (i : Int) : Vw S (.int i) (.int i)
  | str (x : Str) : Vw S (.str x) (.str x)
  | tup {ws : List W} {ds : List PyData} : VwL S ws ds → Vw S (.tup ws) (.tuple ds)
  | lst {ws : List W} {ds : List PyData} : VwL S ws ds → Vw S (.lst ws) (.list ds)
  | ref {a : Addr} {ws : List W} {ds : List PyData} : (S a).bind obL = some ws → VwL S ws ds → Vw S (.ref a) (.list ds)
inductive VwL (S : Sto) : List W → List PyData → Prop
  | nil : VwL S [] []
  | cons {w : W} {ws : List W} {d : PyData} {ds : List PyData} : Vw S w d → VwL S ws ds → VwL S (w :: ws) (d :: ds)
end
/-- texts, numbers, truths, None -/
def flatW : W → Bool
  | .non => true
  | .bl _ => true
  | .int _ => true
  | .str _ => true
  | _ => false

/-- a new list: a cell, or frozen -/
def mkL (live : Bool) (ws : List W) (S : Sto) (Q : WK) : Prop :=
  if live = true then ∀ p, S p = none → Q (.ref p) (sup S p (.lst ws)) else Q (.lst ws) S

/-! ### operators by value -/
inductive Bop where
  | add | sub | mul | fdiv | mod | pow
  deriving DecidableEq
def Bop.op : Bop → Operator
  | .add => .Add | .sub => .Sub | .mul => .Mult | .fdiv => .FloorDiv | .mod => .Mod | .pow => .Pow
def bopW (live : Bool) : Bop → W → W → Sto → WK → Prop
  | .add, .int i, .int j, S, Q => Q (.int (i + j)) S
  | .add, .str x, .str y, S, Q => x.length + y.length ≤ sizeLine ∧ Q (.str (x ++ y)) S
  | .add, .tup xs, .tup ys, S, Q => xs ≠ [] ∧ xs.length + ys.length ≤ sizeLine ∧ Q (.tup (xs ++ ys)) S
  | .add, x, y, S, Q => ∃ xs ys, rdL S x = some xs ∧ rdL S y = some ys ∧ xs.length + ys.length ≤ sizeLine ∧ mkL live (xs ++ ys) S Q
  | .sub, .int i, .int j, S, Q => Q (.int (i - j)) S
  | .mul, .int i, .int j, S, Q => CMulW i j ∧ Q (.int (i * j)) S
  | .mul, .str x, .int k, S, Q => (k = 0 ∧ Q (.str Str.empty) S) ∨ (k = 1 ∧ Q (.str x) S)
  | .mul, x, .int k, S, Q => ∃ xs, rdL S x = some xs ∧ -(2 ^ 63) ≤ k ∧ k < 2 ^ 63 ∧ xs.length * k.toNat ≤ sizeLine ∧ mkL live (List.replicate k.toNat xs).flatten S Q
  | .fdiv, .int i, .int j, S, Q => CDivW i j ∧ Q (.int (i / j)) S
  | .mod, .int i, .int j, S, Q => 0 < j ∧ Q (.int (i % j)) S
  | .pow, .int i, .int j, S, Q => CPow i j ∧ Q (.int (i ^ j.toNat)) S
  | _, _, _, _, _ => False
/-- x is None, True, False -/
def isN : W → Bool
  | .non => true
  | _ => false
def isW : W → W → Option Bool
  | x, .non => some (isN x)
  | .bl a, .bl b => some (decide (a = b))
  | _, _ => none
def eqWk (x y : W) (S : Sto) (Q : Bool → Prop) : Prop :=
  ∃ d e, Vw S x d ∧ Vw S y e ∧ SeqAt.shaped d = true ∧ SeqAt.shaped e = true ∧ Q (PyData.eqv d e)
/-- x in y -/
def inWk (x y : W) (S : Sto) (Q : Bool → Prop) : Prop :=
  match x, y with
  | .str i, .str j => Q (!(Builtin.Str.occurrences j i 0 j.length 1).isEmpty)
  | x, .tup ws => flatW x = true ∧ ws.all flatW = true ∧ ∃ d ds, Vw S x d ∧ VwL S ws ds ∧ Q (ds.any fun z => PyData.eqv z d)
  | x, y => (∃ ws d ds, rdL S y = some ws ∧ Vw S x d ∧ VwL S ws ds ∧ SeqAt.shaped d = true ∧ SeqAt.shaped (.list ds) = true ∧ Q (ds.any fun z => PyData.eqv z d)) ∨
      ∃ o, rdD S y x = some o ∧ Q o.isSome
/-- the order of alike data: d < e, e < d -/
def ordWk (x y : W) (S : Sto) (Q : Bool → Bool → Prop) : Prop :=
  ∃ d e, Vw S x d ∧ Vw S y e ∧ PySem.W.alike d e = true ∧ d ≠ .none ∧ SeqAt.shaped d = true ∧ SeqAt.shaped e = true ∧ Q (PySem.W.dataLt d e) (PySem.W.dataLt e d)
def cmpW : CmpOp → W → W → Sto → (Bool → Prop) → Prop
  | .Lt, .int i, .int j, _, Q => Q (decide (i < j))
  | .LtE, .int i, .int j, _, Q => Q (decide (i ≤ j))
  | .Gt, .int i, .int j, _, Q => Q (decide (j < i))
  | .GtE, .int i, .int j, _, Q => Q (decide (j ≤ i))
  | .Lt, x, y, S, Q => ordWk x y S fun l _ => Q l
  | .LtE, x, y, S, Q => ordWk x y S fun _ g => Q !g
  | .Gt, x, y, S, Q => ordWk x y S fun _ g => Q g
  | .GtE, x, y, S, Q => ordWk x y S fun l _ => Q !l
  | .Eq, x, y, S, Q => eqWk x y S Q
  | .NotEq, x, y, S, Q => eqWk x y S fun b => Q !b
  | .In, x, y, S, Q => inWk x y S Q
  | .NotIn, x, y, S, Q => inWk x y S fun b => Q !b
  | .Is, x, y, _, Q => ∃ b, isW x y = some b ∧ Q b
  | .IsNot, x, y, _, Q => ∃ b, isW x y = some b ∧ Q !b
/-- x[i] -/
def idxW (x i : W) (S : Sto) (Q : WK) : Prop :=
  match x, i with
  | .str z, .int k => z.length ≤ sizeLine ∧ ∃ c, atI z.cps.toList k = some c ∧ Q (.str ⟨#[c]⟩) S
  | .tup ws, .int k => ∃ w, atI ws k = some w ∧ Q w S
  | .lst ws, .int k => ∃ w, atI ws k = some w ∧ Q w S
  | .ref a, i => (∃ ws k w, (S a).bind obL = some ws ∧ i = .int k ∧ atI ws k = some w ∧ Q w S) ∨ ∃ w, rdD S (.ref a) i = some (some w) ∧ Q w S
  | _, _ => False
def cutW (xs : List W) (lo hi : Option Int) : List W := (xs.drop (HT.sIx xs.length 0 lo)).take (HT.sIx xs.length xs.length hi - HT.sIx xs.length 0 lo)
/-- x[lo:hi] -/
def slcW (live : Bool) (x : W) (lo hi : Option Int) (S : Sto) (Q : WK) : Prop :=
  match x with
  | .str z => z.length ≤ sizeLine ∧ Q (.str (cutS z lo hi)) S
  | .tup ws => Q (.tup (cutW ws lo hi)) S
  | x => ∃ ws, rdL S x = some ws ∧ mkL live (cutW ws lo hi) S Q
/-- x[i] = v -/
def setW (x i v : W) (S : Sto) (Q : Sto → Prop) : Prop :=
  ∃ a, x = .ref a ∧
    ((∃ ws k j, S a = some (.lst ws) ∧ i = .int k ∧ ixN ws.length k = some j ∧ Q (sup S a (.lst (ws.set j v)))) ∨
     (∃ kvs k, S a = some (.dk kvs) ∧ keyW i = some k ∧ kvs.length < sizeLine ∧ Q (sup S a (.dk (setK kvs k v)))) ∨
     (∃ kvs ks k, S a = some (.dt kvs) ∧ i = .tup ks ∧ keysW ks = some k ∧ kvs.length < sizeLine ∧ Q (sup S a (.dt (setK kvs k v)))))

/-! ### built-ins by value -/
inductive Blt where
  | len | abs | min2 | min4 | max2 | minL | maxL | maxD | sum | all | any | int | str | list | tuple | sortD | dictK | dictT | listK
  deriving DecidableEq
def intsW : List W → Option (List Int)
  | [] => some []
  | .int i :: ws => (intsW ws).map (i :: ·)
  | _ :: _ => none
def blsW : List W → Option (List Bool)
  | [] => some []
  | .bl i :: ws => (blsW ws).map (i :: ·)
  | _ :: _ => none
def strsW : List W → Option (List Str)
  | [] => some []
  | .str i :: ws => (strsW ws).map (i :: ·)
  | _ :: _ => none
def dLe (a b : W × PyData) : Bool := PySem.W.dataLe false (fun p : W × PyData => p.2) a b
/-- ws in order of ds -/
def sortW (ws : List W) (ds : List PyData) : List W := ((ws.zip ds).mergeSort dLe).map (·.1)
/-- pairs of a key and a value -/
def prK : List W → Option (List (Key × W))
  | [] => some []
  | .tup [k, v] :: ws => (keyW k).bind fun k => (prK ws).map ((k, v) :: ·)
  | _ :: _ => none
def prT : List W → Option (List (List Key × W))
  | [] => some []
  | .tup [.tup ks, v] :: ws => (keysW ks).bind fun k => (prT ws).map ((k, v) :: ·)
  | _ :: _ => none
def putsW {κ : Type} [DecidableEq κ] (acc more : List (κ × W)) : List (κ × W) := more.foldl (fun acc kv => setK acc kv.1 kv.2) acc
def bltW (live : Bool) : Blt → List W → Sto → WK → Prop
  | .len, [.str x], S, Q => x.length ≤ sizeLine ∧ Q (.int x.length) S
  | .len, [x], S, Q => (∃ ws, rdQ S x = some ws ∧ Q (.int ws.length) S) ∨ (∃ a kvs, x = .ref a ∧ (S a).bind obK = some kvs ∧ Q (.int kvs.length) S) ∨ ∃ a kvs, x = .ref a ∧ (S a).bind obT = some kvs ∧ Q (.int kvs.length) S
  | .abs, [.int i], S, Q => Q (.int (if i < 0 then -i else i)) S
  | .min2, [.int i, .int j], S, Q => Q (.int (if j < i then j else i)) S
  | .min4, [.int i, .int j, .int k, .int l], S, Q => ∀ m, m ∈ [i, j, k, l] → (∀ y ∈ [i, j, k, l], m ≤ y) → Q (.int m) S
  | .max2, [.int i, .int j], S, Q => Q (.int (if j > i then j else i)) S
  | .minL, [x], S, Q => ∃ ws ns, rdL S x = some ws ∧ intsW ws = some ns ∧ 0 < ns.length ∧ ∀ m, m ∈ ns → (∀ y, y ∈ ns → m ≤ y) → Q (.int m) S
  | .maxL, [x], S, Q => ∃ ws ns, rdL S x = some ws ∧ intsW ws = some ns ∧ 0 < ns.length ∧ ∀ m, m ∈ ns → (∀ y, y ∈ ns → y ≤ m) → Q (.int m) S
  | .maxD, [x], S, Q => ∃ ws d ds, rdL S x = some ws ∧ VwL S ws (d :: ds) ∧ PySem.W.AlikeAll (d :: ds) ∧ SeqAt.shaped (.list (d :: ds)) = true ∧ ∀ (i : Nat) w, ws[i]? = some w → (d :: ds)[i]? = some (PySem.W.maxD d ds) → Q w S
  | .sum, [x], S, Q => ∃ ws ns, rdL S x = some ws ∧ intsW ws = some ns ∧ Q (.int ns.sum) S
  | .all, [x], S, Q => ∃ ws bs, rdL S x = some ws ∧ blsW ws = some bs ∧ Q (.bl (bs.all id)) S
  | .any, [x], S, Q => ∃ ws bs, rdL S x = some ws ∧ blsW ws = some bs ∧ Q (.bl (bs.any id)) S
  | .int, [.int i], S, Q => Q (.int i) S
  | .int, [.bl b], S, Q => Q (.int (if b then 1 else 0)) S
  | .str, [.int i], S, Q => i.natAbs.log2 < 1920 ∧ Q (.str (toString i)) S
  | .list, [x], S, Q => ∃ ws, rdQ S x = some ws ∧ mkL live ws S Q
  | .tuple, [x], S, Q => ∃ ws, rdQ S x = some ws ∧ Q (.tup ws) S
  | .sortD, [x], S, Q => ∃ ws ds, rdL S x = some ws ∧ VwL S ws ds ∧ PySem.W.AllAlike ds ∧ PySem.W.Sortable ds ∧ SeqAt.shaped (.list ds) = true ∧ mkL live (sortW ws ds) S Q
  | .dictK, [x], S, Q => ∃ ws kvs, rdL S x = some ws ∧ prK ws = some kvs ∧ ∀ p, S p = none → Q (.ref p) (sup S p (.dk (putsW [] kvs)))
  | .dictT, [x], S, Q => ∃ ws kvs, rdL S x = some ws ∧ prT ws = some kvs ∧ ∀ p, S p = none → Q (.ref p) (sup S p (.dt (putsW [] kvs)))
  | .listK, [x], S, Q => ∃ a kvs, x = .ref a ∧ S a = some (.dk kvs) ∧ mkL live (kvs.map fun kv => wKey kv.1) S Q
  | _, _, _, _ => False
def Blt.nm : Blt → Str
  | .len => "len" | .abs => "abs" | .min2 => "min" | .min4 => "min" | .max2 => "max" | .minL => "min" | .maxL => "max" | .maxD => "max" | .sum => "sum" | .all => "all" | .any => "any"
  | .int => "int" | .str => "str" | .list => "list" | .tuple => "tuple" | .sortD => "sorted"
  | .dictK => "dict" | .dictT => "dict" | .listK => "list"

/-! ### methods of lists, dicts, texts by value -/
inductive Mth where
  | append | pop | popAt | extend | clear | join | index
  deriving DecidableEq
def Mth.T : Mth → String
  | .append => "list" | .pop => "list" | .popAt => "list" | .extend => "list" | .clear => "list" | .join => "str" | .index => "list"
/-- what a method's receiver is, ahead of the arguments -/
def rcvW (m : Mth) (x : W) (S : Sto) : Prop :=
  match m.T, x with
  | "str", .str _ => True
  | "list", .ref a => ∃ ws, S a = some (.lst ws)
  | "list", .lst _ => True
  | _, _ => False
def mthW : Mth → W → List W → Sto → WK → Prop
  | .append, .ref a, [y], S, Q => ∃ ws, S a = some (.lst ws) ∧ ws.length < sizeLine ∧ Q .non (sup S a (.lst (ws ++ [y])))
  | .pop, .ref a, [], S, Q => ∃ ws w, S a = some (.lst ws) ∧ ws[ws.length - 1]? = some w ∧ Q w (sup S a (.lst ws.dropLast))
  | .popAt, .ref a, [.int i], S, Q => ∃ ws k w, S a = some (.lst ws) ∧ -(2 ^ 63) ≤ i ∧ i < 2 ^ 63 ∧ seqIndex? i ws.length = some k ∧ ws[k]? = some w ∧ Q w (sup S a (.lst (ws.eraseIdx k)))
  | .clear, .ref a, [], S, Q => ∃ ws, S a = some (.lst ws) ∧ Q .non (sup S a (.lst []))
  | .index, x, [y], S, Q => ∃ ws d ds j z, rdL S x = some ws ∧ VwL S ws ds ∧ Vw S y d ∧ SeqAt.shaped (.list ds) = true ∧ SeqAt.shaped d = true ∧ ds[j]? = some z ∧ PyData.eqv z d = true ∧
      (∀ (m : Nat) (z' : PyData), m < j → ds[m]? = some z' → PyData.eqv z' d = false) ∧ Q (.int (j : Nat)) S
  | .extend, .ref a, [y], S, Q => ∃ ws zs, S a = some (.lst ws) ∧ rdL S y = some zs ∧ ws.length + zs.length ≤ sizeLine ∧ Q .non (sup S a (.lst (ws ++ zs)))
  | .join, .str x, [y], S, Q => ∃ ws ss, rdQ S y = some ws ∧ strsW ws = some ss ∧ (ss.map Str.length).sum + ss.length * x.length ≤ 16777216 ∧ Q (.str (Txt.join x ss)) S
  | _, _, _, _, _ => False

/-- kinds of value, as isinstance asks -/
inductive Knd where
  | non | bl | int | str | lst | tup | dct
  deriving DecidableEq
def Knd.nm : Knd → String
  | .non => "NoneType" | .bl => "bool" | .int => "int" | .str => "str" | .lst => "list" | .tup => "tuple" | .dct => "dict"
def kndO : Ob → Option Knd
  | .lst _ => some .lst
  | .dk _ => some .dct
  | .dt _ => some .dct
  | .lk (.lst _) _ _ => some .lst
  | .lk (.dk _) _ _ => some .dct
  | _ => none
def kndW (S : Sto) : W → Option Knd
  | .non => some .non
  | .bl _ => some .bl
  | .int _ => some .int
  | .str _ => some .str
  | .tup _ => some .tup
  | .lst _ => some .lst
  | .ref a => (S a).bind kndO
def subK (k t : Knd) : Bool := decide (k = t) || (decide (k = .bl) && decide (t = .int))
/-! ### the core language -/
inductive CE where
  /-- lists of expressions (arguments, items, targets) -/
  | nil | cons (a as : CE)
  | var (i : Nat)
  | cst (c : Const)
  | glb (x : Str) (c : Const)
  | bin (live : Bool) (op : Bop) (a b : CE)
  | neg (a : CE) | nt (a : CE)
  | cmp (op : CmpOp) (a b : CE) | chain (o1 o2 : CmpOp) (a b c : CE)
  /-- a list of two or more -/
  | an (as : CE) | or (as : CE)
  | ife (t a b : CE)
  | call (f : Nat) (as : CE)
  | blt (b : Blt) (live : Bool) (as : CE)
  | mth (m : Mth) (o as : CE)
  | idx (a b : CE)
  /-- nil: a part left out -/
  | slc (live : Bool) (a lo hi : CE)
  | rev (live : Bool) (a : CE)
  | tup (as : CE) | lst (live : Bool) (as : CE)
  /-- {}: tk, to have tuples for keys; keys and values by turns -/
  | dnew (tk : Bool) | dct (as : CE)
  /-- cond nil: none -/
  | lc (live : Bool) (own : List (Str × Nat)) (tg it cond elt : CE)
  | frz (a : CE)
  /-- list(range(a)) -/
  | lrg (live : Bool) (a : CE)
  /-- list(zip(a, b)) -/
  | lzip (live : Bool) (a b : CE)
  /-- a[::s], s 1 or -1 -/
  | stp (live : Bool) (a s : CE)
  /-- sorted(set(a)), pairs of numbers from 0 to 63 -/
  | sset (live : Bool) (a : CE)
  | isi (a : CE) (t : Knd)
  /-- len(set(a)), a list of tuples -/
  | lset (a : CE)
  /-- list(d.values()), tuples for keys -/
  | lvals (live : Bool) (a : CE)
  /-- t[1::-1] -/
  | bck (a lo st : CE)
  /-- ghost: a dict's cell is locked meanwhile -/
  | lck (a : CE)
  /-- repr of a tuple of three: two without a dict, a dict with tuples for keys -/
  | rpr (a : CE)
  /-- targets -/
  | tnm (i : Nat) | ttup (ts : CE) | tsub (o i : CE)
  /-- what is walked -/
  | iseq (a : CE) | irng1 (a : CE) | irng2 (a b : CE) | irng3 (a b c : CE) | izip (a b : CE) | ienm (a : CE) | ikeys (a : CE)

def cstW : Const → Option W
  | .none => some .non
  | .bool b => some (.bl b)
  | .int i => some (.int i)
  | .str x => some (.str x)
  | _ => none
def wipeW (ρ : Env) : List Nat → Env
  | [] => ρ
  | v :: vs => (wipeW ρ vs).set v none
def sgnW (x : Str) : List W := x.cps.toList.map fun c => W.str ⟨#[c]⟩
/-- what is walked: a list, a tuple, a text -/
def rdI (S : Sto) : W → Option (List W)
  | .str x => some (sgnW x)
  | w => rdQ S w
/-- where a walked list stands: a cell has to stay as it is -/
def srcW (w : W) (all : List W) (S : Sto) : Prop := rdI S w = some all
def wpLc (src : Sto → Prop) (g : W → Env → Sto → (Env → Sto → Prop) → Prop) (t : Env → Sto → (Bool → Sto → Prop) → Prop) (e : Env → Sto → WK → Prop) (ρ : Env) :
    List W → List W → Sto → (List W → Sto → Prop) → Prop
  | [], acc, S, Q => src S ∧ Q acc S
  | x :: xs, acc, S, Q => src S ∧ g x ρ S fun ρ1 S1 => t ρ1 S1 fun b S2 =>
      if b = true then e ρ1 S2 fun y S3 => acc.length < sizeLine ∧ wpLc src g t e ρ xs (acc ++ [y]) S3 Q else wpLc src g t e ρ xs acc S2 Q
def rngW (lo : Int) (n : Nat) : List W := (List.range n).map fun (i : Nat) => W.int (lo + i)
def enmW (n : Nat) : List W → List W
  | [] => []
  | w :: ws => .tup [.int n, w] :: enmW (n + 1) ws
def zipW : List W → List W → List W
  | x :: xs, y :: ys => .tup [x, y] :: zipW xs ys
  | _, _ => []
abbrev XN : XC := fun _ _ => False
def irngW : List W → Sto → ((Sto → Prop) → List W → Sto → Prop) → Prop
  | [.int n], S, Q => -(2 ^ 62) ≤ n ∧ n < 2 ^ 62 ∧ Q (fun _ => True) (rngW 0 n.toNat) S
  | [.int i, .int j], S, Q => (-(2 ^ 62) ≤ i ∧ i < 2 ^ 62 ∧ -(2 ^ 62) ≤ j ∧ j < 2 ^ 62) ∧ Q (fun _ => True) (rngW i (j - i).toNat) S
  | _, _, _ => False
/-- range with a step: n items -/
def irng3W : List W → Sto → ((Sto → Prop) → List W → Sto → Prop) → Prop
  | [.int i, .int j, .int c], S, Q => ∃ n, RgC i j c n ∧ Q (fun _ => True) ((List.range n).map fun (k : Nat) => W.int (i + k * c)) S
  | _, _, _ => False
/-- dict displays: pairs put one after another -/
def putsK : List (Key × W) → List W → Option (List (Key × W))
  | acc, [] => some acc
  | acc, k :: v :: ws => (keyW k).bind fun k => putsK (setK acc k v) ws
  | _, _ => none
def pairW (p : Int × Int) : W := .tup [.int p.1, .int p.2]
def pairsW : List W → Option (List (Int × Int))
  | [] => some []
  | .tup [.int i, .int j] :: ws => (pairsW ws).map ((i, j) :: ·)
  | _ :: _ => none
def lexP (p q : Int × Int) : Prop := p.1 < q.1 ∨ (p.1 = q.1 ∧ p.2 < q.2)
def keyD1 : Key → PyData
  | .inl i => .int i
  | .inr x => .str x
def keyD (k : List Key) : PyData := .tuple (k.map keyD1)
/-- the dict's data: keys and whole numbers, in their order -/
def dtD (kis : List (List Key × Int)) : PyData := .dict (kis.map fun ki => (keyD ki.1, .int ki.2))
def partW : W → Option (Option Int)
  | .int i => some (some i)
  | _ => none


/-- what a piece of the core language asks: as an expression, a test, a slice's part, a list of expressions (an, or), a target, what is walked -/
structure RD where
  e : WE
  t : Env → Sto → (Bool → Sto → Prop) → XC → Prop
  o : Env → Sto → (Option Int → Sto → Prop) → XC → Prop
  es : Env → Sto → (List W → Sto → Prop) → XC → Prop := fun _ _ _ _ => False
  an : WE := fun _ _ _ _ => False
  or : WE := fun _ _ _ _ => False
  ant : Env → Sto → (Bool → Sto → Prop) → XC → Prop := fun _ _ _ _ => False
  ort : Env → Sto → (Bool → Sto → Prop) → XC → Prop := fun _ _ _ _ => False
  c : Env → Sto → (Bool → Sto → Prop) → Prop := fun _ _ _ => False
  g : W → Env → Sto → (Env → Sto → Prop) → Prop := fun _ _ _ _ => False
  gs : List W → Env → Sto → (Env → Sto → Prop) → Prop := fun _ _ _ _ => False
  i : Env → Sto → ((Sto → Prop) → List W → Sto → Prop) → XC → Prop := fun _ _ _ _ => False
  /-- is there something behind (lists) -/
  more : Bool := false
def truK (Q : Bool → Sto → Prop) : WK := fun x S => ∃ b, truW S x = some b ∧ Q b S
def intK (Q : Option Int → Sto → Prop) : WK := fun x S => ∃ i, x = .int i ∧ Q (some i) S
/-- an expression whose truth is asked plainly -/
def rdE (e : WE) : RD where
  e := e
  t := fun ρ S Q X => e ρ S (truK Q) X
  o := fun ρ S Q X => e ρ S (intK Q) X
/-- an expression that has a test of its own -/
def rdT (e : WE) (t : Env → Sto → (Bool → Sto → Prop) → XC → Prop) : RD where
  e := e
  t := t
  o := fun _ _ _ _ => False
def noE : WE := fun _ _ _ _ => False
def noT : Env → Sto → (Bool → Sto → Prop) → XC → Prop := fun _ _ _ _ => False
/-- tuples of numbers and texts -/
def tupsW : List W → Option (List (List Key))
  | [] => some []
  | .tup us :: ws => (keysW us).bind fun k => (tupsW ws).map (k :: ·)
  | _ :: _ => none
/-- the keys of a dict, as they are walked -/
def obKeys : Ob → Option (List W)
  | .dk kvs => some (kvs.map fun kv => wKey kv.1)
  | .dt kvs => some (kvs.map fun kv => .tup (kv.1.map wKey))
  | _ => none
/-- how many (lists) -/
def cntC : CE → Nat
  | .cons _ as => cntC as + 1
  | _ => 0
def wp (Φ : Nat → List W → Sto → WK → XC → Prop) : CE → RD
  | .nil => {
      e := (noE),
      t := (noT),
      o := (fun _ S Q _ => Q none S),
      es := (fun _ S Q _ => Q [] S),
      c := (fun _ S Q => Q true S),
      gs := (fun ws ρ S Q => ws = [] ∧ Q ρ S) }
  | .cons a as => {
      e := (noE),
      t := (noT),
      o := (fun _ _ _ _ => False),
      es := (fun ρ S Q X => (wp Φ a).e ρ S (fun w S1 => (wp Φ as).es ρ S1 (fun ws S2 => Q (w :: ws) S2) X) X),
      an := (fun ρ S Q X => if (wp Φ as).more = true then (wp Φ a).e ρ S (fun x S1 => ∃ b, truW S1 x = some b ∧ if b = true then (wp Φ as).an ρ S1 Q X else Q x S1) X else (wp Φ a).e ρ S Q X),
      or := (fun ρ S Q X => if (wp Φ as).more = true then (wp Φ a).e ρ S (fun x S1 => ∃ b, truW S1 x = some b ∧ if b = true then Q x S1 else (wp Φ as).or ρ S1 Q X) X else (wp Φ a).e ρ S Q X),
      ant := (fun ρ S Q X => if (wp Φ as).more = true then (wp Φ a).t ρ S (fun b S1 => if b = true then (wp Φ as).ant ρ S1 Q X else Q false S1) X else (wp Φ a).t ρ S Q X),
      ort := (fun ρ S Q X => if (wp Φ as).more = true then (wp Φ a).t ρ S (fun b S1 => if b = true then Q true S1 else (wp Φ as).ort ρ S1 Q X) X else (wp Φ a).t ρ S Q X),
      c := (fun ρ S Q => (wp Φ a).t ρ S Q XN),
      gs := (fun ws ρ S Q => ∃ w r, ws = w :: r ∧ (wp Φ a).g w ρ S fun ρ1 S1 => (wp Φ as).gs r ρ1 S1 Q),
      more := (true) }
  | .var i => rdE fun ρ S Q _ => ∃ w, ρ[i]? = some (some w) ∧ Q w S
  | .cst c => rdE fun _ S Q _ => ∃ w, cstW c = some w ∧ Q w S
  | .glb _ c => rdE fun _ S Q _ => ∃ w, cstW c = some w ∧ Q w S
  | .bin live op a b => rdE fun ρ S Q X => (wp Φ a).e ρ S (fun x S1 => (wp Φ b).e ρ S1 (fun y S2 => bopW live op x y S2 Q) X) X
  | .neg a => rdE fun ρ S Q X => (wp Φ a).e ρ S (fun x S1 => ∃ i, x = .int i ∧ Q (.int (-i)) S1) X
  | .nt a => rdT (fun ρ S Q X => (wp Φ a).e ρ S (fun x S1 => ∃ b, truW S1 x = some b ∧ Q (.bl !b) S1) X) fun ρ S Q X => (wp Φ a).t ρ S (fun b S1 => Q (!b) S1) X
  | .cmp op a b => rdT (fun ρ S Q X => (wp Φ a).e ρ S (fun x S1 => (wp Φ b).e ρ S1 (fun y S2 => cmpW op x y S2 fun r => Q (.bl r) S2) X) X)
      fun ρ S Q X => (wp Φ a).e ρ S (fun x S1 => (wp Φ b).e ρ S1 (fun y S2 => cmpW op x y S2 fun r => Q r S2) X) X
  | .chain o1 o2 a b c => rdT (fun ρ S Q X => (wp Φ a).e ρ S (fun x S1 => (wp Φ b).e ρ S1 (fun y S2 => cmpW o1 x y S2 fun r =>
        if r = true then (wp Φ c).e ρ S2 (fun z S3 => cmpW o2 y z S3 fun r2 => Q (.bl r2) S3) X else Q (.bl false) S2) X) X)
      fun ρ S Q X => (wp Φ a).e ρ S (fun x S1 => (wp Φ b).e ρ S1 (fun y S2 => cmpW o1 x y S2 fun r =>
        if r = true then (wp Φ c).e ρ S2 (fun z S3 => cmpW o2 y z S3 fun r2 => Q r2 S3) X else Q false S2) X) X
  | .an as => rdT (wp Φ as).an (wp Φ as).ant
  | .or as => rdT (wp Φ as).or (wp Φ as).ort
  | .ife t a b => rdT (fun ρ S Q X => (wp Φ t).t ρ S (fun r S1 => if r = true then (wp Φ a).e ρ S1 Q X else (wp Φ b).e ρ S1 Q X) X) noT
  | .call f as => rdE fun ρ S Q X => (wp Φ as).es ρ S (fun ws S1 => Φ f ws S1 Q X) X
  | .blt b live as => rdE fun ρ S Q X => (wp Φ as).es ρ S (fun ws S1 => bltW live b ws S1 Q) X
  | .mth m o as => rdE fun ρ S Q X => (wp Φ o).e ρ S (fun x S1 => rcvW m x S1 ∧ (wp Φ as).es ρ S1 (fun ws S2 => mthW m x ws S2 Q) X) X
  | .idx a b => rdE fun ρ S Q X => (wp Φ a).e ρ S (fun x S1 => (wp Φ b).e ρ S1 (fun y S2 => idxW x y S2 Q) X) X
  | .slc live a lo hi => rdE fun ρ S Q X => (wp Φ a).e ρ S (fun x S1 => (wp Φ lo).o ρ S1 (fun l S2 => (wp Φ hi).o ρ S2 (fun u S3 => slcW live x l u S3 Q) X) X) X
  | .rev live a => rdE fun ρ S Q X => (wp Φ a).e ρ S (fun x S1 => ∃ ws, rdL S1 x = some ws ∧ mkL live ws.reverse S1 Q) X
  | .tup as => rdE fun ρ S Q X => (wp Φ as).es ρ S (fun ws S1 => ws.length ≤ sizeLine ∧ Q (.tup ws) S1) X
  | .lst live as => rdE fun ρ S Q X => (wp Φ as).es ρ S (fun ws S1 => ws.length ≤ sizeLine ∧ mkL live ws S1 Q) X
  | .dnew tk => rdE fun _ S Q _ => ∀ p, S p = none → Q (.ref p) (sup S p (if tk = true then .dt [] else .dk []))
  | .dct as => rdE fun ρ S Q X => (wp Φ as).es ρ S (fun ws S1 => ∃ kvs, putsK [] ws = some kvs ∧ ws.length ≤ 30 ∧ ∀ p, S1 p = none → Q (.ref p) (sup S1 p (.dk kvs))) X
  | .lc live own tg it cond elt => rdE fun ρ S Q X => (wp Φ it).i ρ S (fun src items S1 =>
      wpLc src (wp Φ tg).g (wp Φ cond).c (fun ρ1 S2 Q1 => (wp Φ elt).e ρ1 S2 Q1 XN) (wipeW ρ (own.map (·.2))) items [] S1 fun ws S2 => mkL live ws S2 Q) X
  | .frz a => rdE fun ρ S Q X => (wp Φ a).e ρ S (fun x S1 => ∃ p ws, x = .ref p ∧ S1 p = some (.lst ws) ∧ Q (.lst ws) (sdel S1 p)) X
  | .lrg live a => rdE fun ρ S Q X => (wp Φ a).e ρ S (fun x S1 => ∃ j, x = .int j ∧ 0 ≤ j ∧ j ≤ 16777216 ∧ mkL live (rngW 0 j.toNat) S1 Q) X
  | .lzip live a b => rdE fun ρ S Q X => (wp Φ a).e ρ S (fun x S1 => (wp Φ b).e ρ S1 (fun y S2 => ∃ xs ys, rdL S2 x = some xs ∧ rdL S2 y = some ys ∧ mkL live (zipW xs ys) S2 Q) X) X
  | .stp live a s => rdE fun ρ S Q X => (wp Φ a).e ρ S (fun x S1 => (wp Φ s).e ρ S1 (fun y S2 => ∃ ws k, rdL S2 x = some ws ∧ y = .int k ∧ ((k = 1 ∧ mkL live ws S2 Q) ∨ (k = -1 ∧ mkL live ws.reverse S2 Q))) X) X
  | .sset live a => rdE fun ρ S Q X => (wp Φ a).e ρ S (fun x S1 => ∃ ws ks, rdL S1 x = some ws ∧ pairsW ws = some ks ∧ ks.length < 64 ∧ (∀ p ∈ ks, (0 ≤ p.1 ∧ p.1 < 64) ∧ (0 ≤ p.2 ∧ p.2 < 64)) ∧
      ∀ ks' : List (Int × Int), ks'.Pairwise lexP → (∀ p, p ∈ ks' ↔ p ∈ ks) → mkL live (ks'.map pairW) S1 Q) X
  | .rpr a => rdE fun ρ S Q X => (wp Φ a).e ρ S (fun x S1 => ∃ t d p dt dd kis, x = .tup [t, d, .ref p] ∧ Vw S1 t dt ∧ Vw S1 d dd ∧ (S1 p).bind obT = some (kis.map fun ki => (ki.1, W.int ki.2)) ∧ dt.canLay0 = true ∧ dd.canLay0 = true ∧
      dt.showable = true ∧ dd.showable = true ∧ (dtD kis).showable = true ∧ (PyData.tuple [dt, dd, dtD kis]).shown.length ≤ sizeLine ∧ (PyData.tuple [dt, dd, dtD kis]).depth ≤ 60 ∧ Q (.str (PyData.tuple [dt, dd, dtD kis]).shown) S1) X
  | .isi a t => rdE fun ρ S Q X => (wp Φ a).e ρ S (fun x S1 => ∃ k, kndW S1 x = some k ∧ Q (.bl (subK k t)) S1) X
  | .lset a => rdE fun ρ S Q X => (wp Φ a).e ρ S (fun x S1 => ∃ ws ks, rdL S1 x = some ws ∧ tupsW ws = some ks ∧ ws.length < 256 ∧ ∀ L : List (List Key), L.Nodup → (∀ k, k ∈ L ↔ k ∈ ks) → Q (.int L.length) S1) X
  | .lvals live a => rdE fun ρ S Q X => (wp Φ a).e ρ S (fun x S1 => ∃ p kvs, x = .ref p ∧ (S1 p).bind obT = some kvs ∧ mkL live (kvs.map (·.2)) S1 Q) X
  | .bck a lo st => rdE fun ρ S Q X => (wp Φ a).e ρ S (fun x S1 => (wp Φ lo).e ρ S1 (fun l S2 => l = .int 1 ∧ (wp Φ st).e ρ S2 (fun o S3 => o = .int (-1) ∧ ∃ u v r, x = .tup (u :: v :: r) ∧ Q (.tup [v, u]) S3) X) X) X
  | .lck a => rdE fun ρ S Q X => ∃ p o ks, S p = some o ∧ obKeys o = some ks ∧ ∀ od u, (wp Φ a).e ρ (sup S p (.lk o od u)) (fun w S2 => S2 p = some (.lk o od u) ∧ Q w (sup S2 p o)) XN
  | .tnm i => {
      e := (noE),
      t := (noT),
      o := (fun _ _ _ _ => False),
      g := (fun w ρ S Q => Q (ρ.set i (some w)) S) }
  | .ttup ts => {
      e := (noE),
      t := (noT),
      o := (fun _ _ _ _ => False),
      g := (fun w ρ S Q => ∃ ws, rdQ S w = some ws ∧ ws.length = cntC ts ∧ (wp Φ ts).gs ws ρ S Q) }
  | .tsub o i => {
      e := (noE),
      t := (noT),
      o := (fun _ _ _ _ => False),
      g := (fun w ρ S Q => (wp Φ o).e ρ S (fun x S1 => (wp Φ i).e ρ S1 (fun k S2 => setW x k w S2 fun S3 => Q ρ S3) XN) XN) }
  | .iseq a => {
      e := (noE),
      t := (noT),
      o := (fun _ _ _ _ => False),
      i := (fun ρ S Q X => (wp Φ a).e ρ S (fun x S1 => ∃ ws, rdI S1 x = some ws ∧ Q (srcW x ws) ws S1) X) }
  | .irng1 a => {
      e := (noE),
      t := (noT),
      o := (fun _ _ _ _ => False),
      i := (fun ρ S Q X => (wp Φ a).e ρ S (fun x S1 => irngW [x] S1 Q) X) }
  | .irng2 a b => {
      e := (noE),
      t := (noT),
      o := (fun _ _ _ _ => False),
      i := (fun ρ S Q X => (wp Φ a).e ρ S (fun x S1 => (wp Φ b).e ρ S1 (fun y S2 => irngW [x, y] S2 Q) X) X) }
  | .irng3 a b c => {
      e := (noE),
      t := (noT),
      o := (fun _ _ _ _ => False),
      i := (fun ρ S Q X => (wp Φ a).e ρ S (fun x S1 => (wp Φ b).e ρ S1 (fun y S2 => (wp Φ c).e ρ S2 (fun z S3 => irng3W [x, y, z] S3 Q) X) X) X) }
  | .izip a b => {
      e := (noE),
      t := (noT),
      o := (fun _ _ _ _ => False),
      i := (fun ρ S Q X => (wp Φ a).e ρ S (fun x S1 => (wp Φ b).e ρ S1 (fun y S2 => ∃ xs ys, rdL S2 x = some xs ∧ rdL S2 y = some ys ∧
        Q (fun S => rdL S x = some xs ∧ rdL S y = some ys) (zipW xs ys) S2) X) X) }
  | .ienm a => {
      e := (noE),
      t := (noT),
      o := (fun _ _ _ _ => False),
      i := (fun ρ S Q X => (wp Φ a).e ρ S (fun x S1 => ∃ xs, rdL S1 x = some xs ∧ Q (fun S => rdL S x = some xs) (enmW 0 xs) S1) X) }
  | .ikeys a => {
      e := (noE),
      t := (noT),
      o := (fun _ _ _ _ => False),
      i := (fun ρ S Q X => (wp Φ a).e ρ S (fun x S1 => ∃ p o od u ks, x = .ref p ∧ S1 p = some (.lk o od u) ∧ obKeys o = some ks ∧ Q (fun S => S p = some (.lk o od u)) ks S1) X) }

/-! ### statements -/
structure WEnds where
  nx : Env → Sto → Prop
  rt : WK
  bk : Env → Sto → Prop := fun _ _ => False
  ct : Env → Sto → Prop := fun _ _ => False
  xc : XC := fun _ _ => False
abbrev WS := Env → Sto → WEnds → Prop
inductive CS where
  | nil | seq (s r : CS)
  | asg (t e : CE)
  | par (is : List Nat) (es : CE)
  /-- of ints; sb: -= -/
  | aug (i : Nat) (sb : Bool) (e : CE)
  | augS (o i : CE) (sb : Bool) (e : CE)
  | expr (e : CE)
  | ret (e : CE) | retN
  | iff (t : CE) (a b : CS)
  | fr (t it : CE) (b : CS)
  | whl (t : CE) (b : CS)
  | cont | pass | brk
  /-- ghost: the list in a slot is frozen; cells are forgotten -/
  | gfrz (i : Nat)
  /-- ghost: a tuple of two lists: both are frozen -/
  | gfr2 (i : Nat)
  /-- ghost: cells are forgotten -/
  | gdrop
  | never
def wpFor (src : Sto → Prop) (g : W → Env → Sto → (Env → Sto → Prop) → Prop) (b : WS) : List W → Env → Sto → WEnds → Prop
  | [], ρ, S, D => src S ∧ D.nx ρ S
  | x :: xs, ρ, S, D => src S ∧ g x ρ S fun ρ1 S1 => b ρ1 S1 { D with nx := fun ρ2 S2 => wpFor src g b xs ρ2 S2 D, ct := fun ρ2 S2 => wpFor src g b xs ρ2 S2 D, bk := D.nx }
def setAll (ρ : Env) : List Nat → List W → Env
  | i :: is, w :: ws => setAll (ρ.set i (some w)) is ws
  | _, _ => ρ
def augI (sb : Bool) (a b : Int) : Int := if sb = true then a - b else a + b
def wps (Φ : Nat → List W → Sto → WK → XC → Prop) : CS → WS
  | .nil => fun ρ S D => D.nx ρ S
  | .seq s r => fun ρ S D => wps Φ s ρ S { D with nx := fun ρ1 S1 => wps Φ r ρ1 S1 D }
  | .asg t e => fun ρ S D => (wp Φ e).e ρ S (fun w S1 => (wp Φ t).g w ρ S1 D.nx) D.xc
  | .par is es => fun ρ S D => (wp Φ es).es ρ S (fun ws S1 => ws.length = is.length ∧ D.nx (setAll ρ is ws) S1) D.xc
  | .aug i op e => fun ρ S D => ∃ x, ρ[i]? = some (some x) ∧ (wp Φ e).e ρ S (fun y S1 => ∃ a b, x = .int a ∧ y = .int b ∧ D.nx (ρ.set i (some (.int (augI op a b)))) S1) D.xc
  | .augS o i op e => fun ρ S D => (wp Φ o).e ρ S (fun x S1 => (wp Φ i).e ρ S1 (fun k S2 => (∃ a, x = .ref a) ∧ idxW x k S2 fun v S3 => (wp Φ e).e ρ S3 (fun y S4 =>
      ∃ a b, v = .int a ∧ y = .int b ∧ setW x k (.int (augI op a b)) S4 fun S6 => D.nx ρ S6) D.xc) D.xc) D.xc
  | .expr e => fun ρ S D => (wp Φ e).e ρ S (fun _ S1 => D.nx ρ S1) D.xc
  | .ret e => fun ρ S D => (wp Φ e).e ρ S D.rt D.xc
  | .retN => fun _ S D => D.rt .non S
  | .iff t a b => fun ρ S D => (wp Φ t).t ρ S (fun r S1 => if r = true then wps Φ a ρ S1 D else wps Φ b ρ S1 D) D.xc
  | .fr t it b => fun ρ S D => (wp Φ it).i ρ S (fun src items S1 => wpFor src (wp Φ t).g (wps Φ b) items ρ S1 D) D.xc
  | .whl t b => fun ρ S D => ∃ I : Nat → Env → Sto → Prop, (∃ m, I m ρ S) ∧ ∀ m ρ S, I m ρ S → (wp Φ t).t ρ S (fun r S1 =>
      if r = true then wps Φ b ρ S1 { D with nx := fun ρ2 S2 => ∃ m', m' < m ∧ I m' ρ2 S2, ct := fun ρ2 S2 => ∃ m', m' < m ∧ I m' ρ2 S2, bk := D.nx } else D.nx ρ S1) D.xc
  | .cont => fun ρ S D => D.ct ρ S
  | .brk => fun ρ S D => D.bk ρ S
  | .pass => fun ρ S D => D.nx ρ S
  | .gfrz i => fun ρ S D => ∃ p ws, ρ[i]? = some (some (.ref p)) ∧ S p = some (.lst ws) ∧ D.nx (ρ.set i (some (.lst ws))) (sdel S p)
  | .gfr2 i => fun ρ S D => ∃ p q xs ys, ρ[i]? = some (some (.tup [.ref p, .ref q])) ∧ S p = some (.lst xs) ∧ S q = some (.lst ys) ∧ p ≠ q ∧ D.nx (ρ.set i (some (.tup [.lst xs, .lst ys]))) (sdel (sdel S p) q)
  | .gdrop => fun ρ S D => ∃ S', Fewer S' S ∧ D.nx ρ S'
  | .never => fun _ _ _ => False
end MP

set_option Elab.async false
set_option linter.all false
set_option maxRecDepth 100000
set_option maxHeartbeats 4000000
/-! MP3: the readings of the core language as the layer's; operators by value. -/
namespace MP
open PySem PySem.Spec PyProof.Rows L2

/-! ### readings as the layer's -/
def XRep (K : KH) (F H : Hp) (x : Exn) (d : Option Addr) : Prop :=
  match x.nm with
  | none => d = none
  | some w => ∃ dd v, d = some dd ∧ H dd = some (.xd [("name", v)]) ∧ Rep K F w v
/-- what is wanted of an exception -/
def XCk (K : KH) (E : XK) (S : Sto) (H : Hp) (X : XC) : Prop :=
  ∀ x S' H' d, StoOk K S' H' → Same (fz S H) (fz S' H') → XRep K (fz S' H') H' x d → X x S' → E (.ref x.cls) d H'
section
variable {K : KH} {E : XK} {S S' : Sto} {H H' : Hp} {X : XC}
theorem XCk.to (h : XCk K E S H X) (e : Same (fz S H) (fz S' H')) : XCk K E S' H' X := fun x S2 H2 d k q r h1 => h x S2 H2 d k (e.trans q) r h1
theorem XCk.no : XCk K E S H XN := fun _ _ _ _ _ _ _ h => h.elim
end
structure Ctx where
  K : KH
  E : L2.St → XK
structure Ct0 where
  K : PySem.W.Frag
  E : L2.St → XK
abbrev Ct0.at (c : Ct0) (h : Addr → Bool) : Ctx := ⟨⟨c.K, h⟩, c.E⟩
/-- a value's wish -/
def Kv (C : Ctx) (ρ : Env) (σ : L2.St) (S : Sto) (H : Hp) (Q : WK) (Q' : VK) : Prop :=
  ∀ w S' v H', Sim C.K ρ σ S' H' → Same (fz S H) (fz S' H') → Rep C.K (fz S' H') w v → Q w S' → Q' v H'
def tOf (c : Ct0) (e : WE) : TE := fun σ H Q' => ∃ h ρ S Q X, Sim (c.at h).K ρ σ S H ∧ e ρ S Q X ∧ Kv (c.at h) ρ σ S H Q Q' ∧ XCk (c.at h).K (c.E σ) S H X
def tOfT (c : Ct0) (t : Env → Sto → (Bool → Sto → Prop) → XC → Prop) : TT := fun σ H Q' => ∃ h ρ S Q X, Sim (c.at h).K ρ σ S H ∧ t ρ S Q X ∧
  (∀ b S' H', Sim (c.at h).K ρ σ S' H' → Same (fz S H) (fz S' H') → Q b S' → Q' b H') ∧ XCk (c.at h).K (c.E σ) S H X
def tOfA (c : Ct0) (es : Env → Sto → (List W → Sto → Prop) → XC → Prop) : TA := fun σ H Q' => ∃ h ρ S Q X, Sim (c.at h).K ρ σ S H ∧ es ρ S Q X ∧
  (∀ ws S' vs H', Sim (c.at h).K ρ σ S' H' → Same (fz S H) (fz S' H') → RepL (c.at h).K (fz S' H') ws vs → Q ws S' → Q' vs H') ∧ XCk (c.at h).K (c.E σ) S H X
def tOfO (c : Ct0) (o : Env → Sto → (Option Int → Sto → Prop) → XC → Prop) : TO := fun σ H Q' => ∃ h ρ S Q X, Sim (c.at h).K ρ σ S H ∧ o ρ S Q X ∧
  (∀ i S' H', Sim (c.at h).K ρ σ S' H' → Same (fz S H) (fz S' H') → Q i S' → Q' i H') ∧ XCk (c.at h).K (c.E σ) S H X
/-- a target: al, the slots it may change -/
def Al (al : List Nat) (σ σ' : L2.St) : Prop := σ'.length = σ.length ∧ ∀ j, j ∉ al → σ'[j]? = σ[j]?
def tOfG (c : Ct0) (al : List Nat) (g : W → Env → Sto → (Env → Sto → Prop) → Prop) : TG := fun v σ H Q' => ∃ h w ρ S Q, Sim (c.at h).K ρ σ S H ∧ Rep (c.at h).K (fz S H) w v ∧ g w ρ S Q ∧
  (∀ ρ' S' σ' H', Sim (c.at h).K ρ' σ' S' H' → Same (fz S H) (fz S' H') → Al al σ σ' → Q ρ' S' → Q' σ' H')
def tOfGs (c : Ct0) (al : List Nat) (g : List W → Env → Sto → (Env → Sto → Prop) → Prop) : TGs := fun vs σ H Q' => ∃ h ws ρ S Q, Sim (c.at h).K ρ σ S H ∧ RepL (c.at h).K (fz S H) ws vs ∧ g ws ρ S Q ∧
  (∀ ρ' S' σ' H', Sim (c.at h).K ρ' σ' S' H' → Same (fz S H) (fz S' H') → Al al σ σ' → Q ρ' S' → Q' σ' H')
theorem Al.refl {al : List Nat} {σ : L2.St} : Al al σ σ := ⟨rfl, fun _ _ => rfl⟩
theorem Al.trans {al : List Nat} {σ σ1 σ2 : L2.St} (a : Al al σ σ1) (b : Al al σ1 σ2) : Al al σ σ2 := ⟨b.1.trans a.1, fun j h => (b.2 j h).trans (a.2 j h)⟩
theorem Al.mono {al al' : List Nat} {σ σ1 : L2.St} (a : Al al σ σ1) (h : ∀ j ∈ al, j ∈ al') : Al al' σ σ1 := ⟨a.1, fun j hj => a.2 j fun z => hj (h j z)⟩
theorem Al.set {i : Nat} {σ : L2.St} {x : Option V} : Al [i] σ (σ.set i x) := ⟨List.length_set, fun j h => by
  rw [List.getElem?_set_ne]
  intro e; exact h (by rw [e]; exact List.mem_singleton.mpr rfl)⟩

theorem PE.imp {X : Cx} {e : Expr} {t t' : TE} (h : PE X e t) (i : ∀ σ H Q, t' σ H Q → t σ H Q) : PE X e t' := ⟨fun pins s σ H Q I q => h.run pins s σ H Q I (i σ H Q q)⟩
theorem PT.imp {X : Cx} {e : Expr} {t t' : TT} (h : PT X e t) (i : ∀ σ H Q, t' σ H Q → t σ H Q) : PT X e t' := ⟨fun pins s σ H Q I q => h.run pins s σ H Q I (i σ H Q q)⟩
theorem PW.imp {X : Cx} {e : Expr} {t t' : TT} (h : PW X e t) (i : ∀ σ H Q, t' σ H Q → t σ H Q) : PW X e t' := ⟨fun wh pins s σ H Q I q => h.run wh pins s σ H Q I (i σ H Q q)⟩
theorem PA.imp {X : Cx} {e : List Expr} {t t' : TA} (h : PA X e t) (i : ∀ σ H Q, t' σ H Q → t σ H Q) : PA X e t' := ⟨fun p pins s σ H Q I q => h.run p pins s σ H Q I (i σ H Q q)⟩
theorem PO.imp {X : Cx} {e : Option Expr} {t t' : TO} (h : PO X e t) (i : ∀ σ H Q, t' σ H Q → t σ H Q) : PO X e t' := ⟨fun pins s σ H Q I q => h.run pins s σ H Q I (i σ H Q q)⟩
theorem PG.imp {X : Cx} {e : Expr} {t t' : TG} (h : PG X e t) (i : ∀ v σ H Q, t' v σ H Q → t v σ H Q) : PG X e t' := ⟨fun pins s σ H v u Q I r q => h.run pins s σ H v u Q I r (i v σ H Q q)⟩
theorem PGs.imp {X : Cx} {e : List Expr} {t t' : TGs} (h : PGs X e t) (i : ∀ v σ H Q, t' v σ H Q → t v σ H Q) : PGs X e t' := ⟨fun pins s σ H v u Q I r q => h.run pins s σ H v u Q I r (i v σ H Q q)⟩
theorem PS.imp {X : Cx} {e : Stmt} {t t' : TS} (h : PS X e t) (i : ∀ D σ H, t' D σ H → t D σ H) : PS X e t' := ⟨fun pins s σ H D I q => h.run pins s σ H D I (i D σ H q)⟩
theorem PSs.imp {X : Cx} {e : List Stmt} {t t' : TS} (h : PSs X e t) (i : ∀ D σ H, t' D σ H → t D σ H) : PSs X e t' := ⟨fun pins s σ H D I q => h.run pins s σ H D I (i D σ H q)⟩

/-! ### values read -/
section
variable {K : KH} {S : Sto} {H : Hp} {w x y : W} {v vx vy : V} {ws : List W}
theorem rd_obL {a : Addr} {o : Ob} {u : HO} {ws : List W} (r : ObR K (fz S H) H a o u) (e : obL o = some ws) : ∃ vs, (u = .lst vs ∨ ∃ od, u = .frz od (.lst vs)) ∧ RepL K (fz S H) ws vs := by
  cases o with
  | lst us =>
    cases e
    obtain ⟨vs, h, r⟩ := r
    exact ⟨vs, .inl h, r⟩
  | lk o od u' =>
    cases o with
    | lst us =>
      cases e
      obtain ⟨h, vs, h2, r⟩ := r
      exact ⟨vs, .inr ⟨od, by rw [h, h2]⟩, r⟩
    | _ => cases e
  | _ => cases e
theorem rd_obK {a : Addr} {o : Ob} {u : HO} {ws : List (Key × W)} (r : ObR K (fz S H) H a o u) (e : obK o = some ws) : ∃ vs, (u = .dK vs ∨ ∃ od, u = .frz od (.dK vs)) ∧ KVR K (fz S H) ws vs := by
  cases o with
  | dk us =>
    cases e
    obtain ⟨vs, h, r⟩ := r
    exact ⟨vs, .inl h, r⟩
  | lk o od u' =>
    cases o with
    | dk us =>
      cases e
      obtain ⟨h, vs, h2, r⟩ := r
      exact ⟨vs, .inr ⟨od, by rw [h, h2]⟩, r⟩
    | _ => cases e
  | _ => cases e
theorem rd_obT {a : Addr} {o : Ob} {u : HO} {ws : List (List Key × W)} (r : ObR K (fz S H) H a o u) (e : obT o = some ws) : ∃ vs, (u = .dT vs ∨ ∃ od, u = .frz od (.dT vs)) ∧ KVR K (fz S H) ws vs := by
  cases o with
  | dt us =>
    cases e
    obtain ⟨vs, h, r⟩ := r
    exact ⟨vs, .inl h, r⟩
  | lk o od u' =>
    cases o with
    | dt us =>
      cases e
      obtain ⟨h, vs, h2, r⟩ := r
      exact ⟨vs, .inr ⟨od, by rw [h, h2]⟩, r⟩
    | _ => cases e
  | _ => cases e
theorem cell_obL {a : Addr} (k : StoOk K S H) (h : (S a).bind obL = some ws) : ∃ vs, Rd H a (.lst vs) ∧ RepL K (fz S H) ws vs := by
  cases e : S a with
  | none => rw [e] at h; cases h
  | some o =>
    rw [e] at h
    obtain ⟨u, hu, r⟩ := k.at' a o e
    obtain ⟨vs, h1, h2⟩ := rd_obL r h
    rcases h1 with h1 | ⟨od, h1⟩
    · exact ⟨vs, .inl (h1 ▸ hu), h2⟩
    · exact ⟨vs, .inr ⟨od, h1 ▸ hu⟩, h2⟩
theorem cell_obK {a : Addr} {kvs : List (Key × W)} (k : StoOk K S H) (h : (S a).bind obK = some kvs) : ∃ vs, Rd H a (.dK vs) ∧ KVR K (fz S H) kvs vs := by
  cases e : S a with
  | none => rw [e] at h; cases h
  | some o =>
    rw [e] at h
    obtain ⟨u, hu, r⟩ := k.at' a o e
    obtain ⟨vs, h1, h2⟩ := rd_obK r h
    rcases h1 with h1 | ⟨od, h1⟩
    · exact ⟨vs, .inl (h1 ▸ hu), h2⟩
    · exact ⟨vs, .inr ⟨od, h1 ▸ hu⟩, h2⟩
theorem cell_obT {a : Addr} {kvs : List (List Key × W)} (k : StoOk K S H) (h : (S a).bind obT = some kvs) : ∃ vs, Rd H a (.dT vs) ∧ KVR K (fz S H) kvs vs := by
  cases e : S a with
  | none => rw [e] at h; cases h
  | some o =>
    rw [e] at h
    obtain ⟨u, hu, r⟩ := k.at' a o e
    obtain ⟨vs, h1, h2⟩ := rd_obT r h
    rcases h1 with h1 | ⟨od, h1⟩
    · exact ⟨vs, .inl (h1 ▸ hu), h2⟩
    · exact ⟨vs, .inr ⟨od, h1 ▸ hu⟩, h2⟩
/-- a list is read -/
theorem rdL_sq (k : StoOk K S H) (r : Rep K (fz S H) w v) (h : rdL S w = some ws) : ∃ a vs, v = .ref a ∧ SqR K.K H a vs ∧ RepL K (fz S H) ws vs := by
  cases w with
  | lst us =>
    cases h
    cases r with
    | lst _ h1 h2 => exact ⟨_, _, rfl, .inl (same_rd fz_sub h1), h2⟩
    | klst h1 h2 => exact ⟨_, _, rfl, .inr h1, h2⟩
  | ref a =>
    cases r
    obtain ⟨vs, h1, h2⟩ := cell_obL k h
    exact ⟨a, vs, rfl, .inl h1, h2⟩
  | _ => cases h
theorem rdQ_sq (k : StoOk K S H) (r : Rep K (fz S H) w v) (h : rdQ S w = some ws) : ∃ a vs, v = .ref a ∧ (SqL K.K H a vs ∨ SqT K.K H a vs) ∧ RepL K (fz S H) ws vs := by
  cases w with
  | tup us =>
    cases h
    cases r with
    | tup _ h1 h2 => exact ⟨_, _, rfl, .inr (.inl (.inl (fz_sub _ _ h1))), h2⟩
  | lst us =>
    obtain ⟨a, vs, e, h1, h2⟩ := rdL_sq k r (show rdL S (.lst us) = some ws from h)
    exact ⟨a, vs, e, .inl h1.sq, h2⟩
  | ref a =>
    obtain ⟨a, vs, e, h1, h2⟩ := rdL_sq k r (show rdL S (.ref a) = some ws from h)
    exact ⟨a, vs, e, .inl h1.sq, h2⟩
  | _ => cases h
theorem tup_sq {us : List W} (r : Rep K (fz S H) (.tup us) v) : ∃ a vs, v = .ref a ∧ H a = some (.tup vs) ∧ RepL K (fz S H) us vs := by
  cases r with
  | tup _ h1 h2 => exact ⟨_, _, rfl, fz_sub _ _ h1, h2⟩
mutual
theorem Vw.dp (k : StoOk K S H) : ∀ {w : W} {d : PyData} {v : V}, Vw S w d → Rep K (fz S H) w v → Dp K.K H v d
  | _, _, _, .non, .non => .non
  | _, _, _, .bl b, .bl _ => .bl b
  | _, _, _, .int i, .int _ => .int i
  | _, _, _, .str x, .str _ => .str x
  | _, _, _, .tup h, .tup _ h1 h2 => .tup (.inl (.inl (fz_sub _ _ h1))) (VwL.dp k h h2)
  | _, _, _, .lst h, .lst _ h1 h2 => .lst (.inl (same_rd fz_sub h1)) (VwL.dp k h h2)
  | _, _, _, .lst h, .klst h1 h2 => .lst (SqR.sq (.inr h1)) (VwL.dp k h h2)
  | _, _, _, .ref e h, .ref _ => by
    obtain ⟨vs, h1, h2⟩ := cell_obL k e
    exact .lst (.inl h1) (VwL.dp k h h2)
theorem VwL.dp (k : StoOk K S H) : ∀ {ws : List W} {ds : List PyData} {vs : List V}, VwL S ws ds → RepL K (fz S H) ws vs → DpAll K.K H vs ds
  | _, _, _, .nil, .nil => .nil
  | _, _, _, .cons a b, .cons c d => .cons (Vw.dp k a c) (VwL.dp k b d)
end
theorem keyW_v {k : Key} (h : keyW w = some k) (r : Rep K (fz S H) w v) : v = kV k := by
  cases w with
  | int i => cases h; cases r; rfl
  | str x => cases h; cases r; rfl
  | _ => cases h
theorem keysW_v : ∀ {ws : List W} {vs : List V} {ks : List Key}, keysW ws = some ks → RepL K (fz S H) ws vs → vs = ks.map kV
  | [], _, _, h, .nil => by cases h; rfl
  | w :: ws, _, ks, h, .cons a b => by
    unfold keysW at h
    cases e : keyW w with
    | none => rw [e] at h; cases h
    | some k =>
      rw [e] at h
      cases e2 : keysW ws with
      | none => rw [e2] at h; cases h
      | some ks' =>
        rw [e2] at h
        cases h
        rw [keyW_v e a, keysW_v e2 b]
        rfl
theorem kvr_get {κ : Type} [DecidableEq κ] {F : Hp} : ∀ {kvs : List (κ × W)} {kv' : List (κ × V)}, KVR K F kvs kv' → ∀ k : κ, (getK kvs k = none ∧ valV kv' k = none) ∨ ∃ w v, getK kvs k = some w ∧ valV kv' k = some v ∧ Rep K F w v
  | _, _, .nil, k => .inl ⟨rfl, rfl⟩
  | (k0, w) :: kvs, (k1, v) :: kv', .cons ⟨h1, h2⟩ t, k => by
    obtain rfl : k0 = k1 := h1
    by_cases e : k0 = k
    · refine .inr ⟨w, v, ?_, valV_pos e, h2⟩
      unfold getK
      rw [List.find?_cons_of_pos (by simpa using e)]
      rfl
    · rw [valV_neg e]
      have : getK ((k0, w) :: kvs) k = getK kvs k := by
        unfold getK
        rw [List.find?_cons_of_neg (by simpa using e)]
      rw [this]
      exact kvr_get t k
theorem kvr_any {κ : Type} [DecidableEq κ] {F : Hp} : ∀ {kvs : List (κ × W)} {kv' : List (κ × V)}, KVR K F kvs kv' → ∀ k : κ, (kvs.any fun kv => decide (kv.1 = k)) = (kv'.any fun kv => decide (kv.1 = k))
  | _, _, .nil, k => rfl
  | (k0, w) :: kvs, (k1, v) :: kv', .cons ⟨h1, h2⟩ t, k => by
    obtain rfl : k0 = k1 := h1
    rw [List.any_cons, List.any_cons, kvr_any t k]
theorem kvr_map {κ : Type} [DecidableEq κ] {F : Hp} {k : κ} (r : Rep K F w v) : ∀ {kvs : List (κ × W)} {kv' : List (κ × V)}, KVR K F kvs kv' →
    KVR K F (kvs.map fun kv => if kv.1 = k then (kv.1, w) else kv) (kv'.map fun kv => if kv.1 = k then (kv.1, v) else kv)
  | _, _, .nil => .nil
  | (k0, w) :: kvs, (k1, v) :: kv', .cons ⟨h1, h2⟩ t => by
    obtain rfl : k0 = k1 := h1
    rw [List.map_cons, List.map_cons]
    refine .cons ?_ (kvr_map r t)
    by_cases e : k0 = k
    · rw [if_pos e, if_pos e]; exact ⟨rfl, r⟩
    · rw [if_neg e, if_neg e]; exact ⟨rfl, h2⟩
theorem paired_app {α β : Type} {G : α → β → Prop} : ∀ {l1 m1 : List α} {l2 m2 : List β}, Paired G l1 l2 → Paired G m1 m2 → Paired G (l1 ++ m1) (l2 ++ m2)
  | _, _, _, _, .nil, h => h
  | _, _, _, _, .cons a b, h => .cons a (paired_app b h)
theorem kvr_put {κ : Type} [DecidableEq κ] {F : Hp} {k : κ} {kvs : List (κ × W)} {kv' : List (κ × V)} (h : KVR K F kvs kv') (r : Rep K F w v) : KVR K F (setK kvs k w) (putK kv' k v) := by
  unfold setK putK
  rw [kvr_any h k]
  split
  · exact kvr_map r h
  · exact paired_app h (.cons ⟨rfl, r⟩ .nil)
theorem kvr_drop {κ : Type} [DecidableEq κ] {F : Hp} {k : κ} : ∀ {kvs : List (κ × W)} {kv' : List (κ × V)}, KVR K F kvs kv' → KVR K F (delK kvs k) (dropK kv' k)
  | _, _, .nil => .nil
  | (k0, w) :: kvs, (k1, v) :: kv', .cons ⟨h1, h2⟩ t => by
    obtain rfl : k0 = k1 := h1
    unfold delK dropK
    rw [List.filter_cons, List.filter_cons]
    by_cases e : k0 = k
    · rw [if_neg (by simpa using e), if_neg (by simpa using e)]
      exact kvr_drop t
    · rw [if_pos (by simpa using e), if_pos (by simpa using e)]
      exact .cons ⟨rfl, h2⟩ (kvr_drop t)
theorem kvr_len {κ : Type} {F : Hp} : ∀ {kvs : List (κ × W)} {kv' : List (κ × V)}, KVR K F kvs kv' → kvs.length = kv'.length
  | _, _, .nil => rfl
  | _ :: _, _ :: _, .cons _ t => by rw [List.length_cons, List.length_cons, kvr_len t]
/-- a dict is asked for a key -/
theorem rdD_get {o : Option W} (k : StoOk K S H) (rx : Rep K (fz S H) x vx) (ry : Rep K (fz S H) y vy) (h : rdD S x y = some o) :
    ∃ a r, vx = .ref a ∧ DGet H a vy r ∧ ((o = none ∧ r = none) ∨ ∃ w v, o = some w ∧ r = some v ∧ Rep K (fz S H) w v) := by
  cases x with
  | ref a =>
    cases rx
    unfold rdD at h
    cases e : S a with
    | none => simp [e] at h
    | some ob =>
      simp only [e, Option.bind_some] at h
      obtain ⟨u, hu, r⟩ := k.at' a ob e
      cases e1 : obK ob with
      | some kvs =>
        simp only [e1] at h
        cases e2 : keyW y with
        | none => simp [e2] at h
        | some kk =>
          simp only [e2, Option.map_some, Option.some.injEq] at h
          obtain ⟨vs, h1, h2⟩ := rd_obK r e1
          have hR : Rd H a (.dK vs) := by
            rcases h1 with h1 | ⟨od, h1⟩
            · exact .inl (h1 ▸ hu)
            · exact .inr ⟨od, h1 ▸ hu⟩
          refine ⟨a, valV vs kk, rfl, .inl ⟨vs, kk, hR, keyW_v e2 ry, rfl⟩, ?_⟩
          rcases kvr_get h2 kk with ⟨q1, q2⟩ | ⟨w, v, q1, q2, q3⟩
          · exact .inl ⟨h ▸ q1, q2⟩
          · exact .inr ⟨w, v, h ▸ q1, q2, q3⟩
      | none =>
        cases e2 : obT ob with
        | none => simp [e1, e2] at h
        | some kvs =>
          cases y with
          | tup ks =>
            simp only [e1, e2] at h
            cases e3 : keysW ks with
            | none => simp [e3] at h
            | some kk =>
              simp only [e3, Option.map_some, Option.some.injEq] at h
              obtain ⟨vs, h1, h2⟩ := rd_obT r e2
              have hR : Rd H a (.dT vs) := by
                rcases h1 with h1 | ⟨od, h1⟩
                · exact .inl (h1 ▸ hu)
                · exact .inr ⟨od, h1 ▸ hu⟩
              obtain ⟨b, us, rfl, hb, ru⟩ := tup_sq ry
              refine ⟨a, valV vs kk, rfl, .inr ⟨vs, kk, b, hR, rfl, by rw [hb, keysW_v e3 ru], rfl⟩, ?_⟩
              rcases kvr_get h2 kk with ⟨q1, q2⟩ | ⟨w, v, q1, q2, q3⟩
              · exact .inl ⟨h ▸ q1, q2⟩
              · exact .inr ⟨w, v, h ▸ q1, q2, q3⟩
          | _ => simp [e1, e2] at h
  | _ => cases h
end

/-! ### new things -/
section
variable {C : Ctx} {ρ : Env} {σ : L2.St} {S : Sto} {H : Hp} {Q : WK} {Q' : VK}
theorem Kv.give (k : Kv C ρ σ S H Q Q') (s : Sim C.K ρ σ S H) {w : W} {v : V} (r : Rep C.K (fz S H) w v) (q : Q w S) : Q' v H := k w S v H s (Same.refl _) r q
theorem Kv.to {S1 : Sto} {H1 : Hp} (k : Kv C ρ σ S H Q Q') (e : Same (fz S H) (fz S1 H1)) : Kv C ρ σ S1 H1 Q Q' := fun w S' v H' s q r h => k w S' v H' s (e.trans q) r h
theorem Kv.newTup (k : Kv C ρ σ S H Q Q') (s : Sim C.K ρ σ S H) {ws : List W} {vs : List V} (r : RepL C.K (fz S H) ws vs) (q : Q (.tup ws) S) :
    ∀ p, H p = none → Q' (.ref p) (upd H p (.tup vs)) := fun p hp => by
  have e := same_new (o := .tup vs) s.sto hp
  exact k _ S _ _ (s.to e (s.sto.new hp)) e (.tup (s.sto.nohid hp) (fz_new s.sto hp) (r.mono e)) q
theorem Kv.newLst (k : Kv C ρ σ S H Q Q') (s : Sim C.K ρ σ S H) {live : Bool} {ws : List W} {vs : List V} (r : RepL C.K (fz S H) ws vs) (q : mkL live ws S Q) :
    ∀ p, H p = none → Q' (.ref p) (upd H p (.lst vs)) := fun p hp => by
  cases live with
  | true =>
    have e := same_newc (ob := .lst ws) (o := .lst vs) s.sto hp
    exact k _ _ _ _ (s.to e (s.sto.newc hp ⟨vs, rfl, r⟩)) e (.ref p) (q p (s.sto.free hp))
  | false =>
    have e := same_new (o := .lst vs) s.sto hp
    exact k _ S _ _ (s.to e (s.sto.new hp)) e (.lst (s.sto.nohid hp) (.inl (fz_new s.sto hp)) (r.mono e)) q
end

/-! ### operators: from plain values to the layer's rules -/
/-- what is known of two values that an operator meets -/
def OpS (C : Ctx) (g : W → W → Sto → WK → Prop) (r : R2) : Prop := ∀ (x y : W) (vx vy : V) (ρ : Env) (σ : L2.St) (S : Sto) (H : Hp) (Q : WK) (Q' : VK), Sim C.K ρ σ S H → Rep C.K (fz S H) x vx → Rep C.K (fz S H) y vy →
  g x y S Q → Kv C ρ σ S H Q Q' → r vx vy H Q'
theorem tOf_op {c : Ct0} {g : W → W → Sto → WK → Prop} {r : R2} (h : ∀ h, OpS (c.at h) g r) {a b : WE} {σ : L2.St} {H : Hp} {Q' : VK}
    (q : tOf c (fun ρ S Q X => a ρ S (fun x S1 => b ρ S1 (fun y S2 => g x y S2 Q) X) X) σ H Q') : tOp r (tOf c a) (tOf c b) σ H Q' := by
  obtain ⟨hh, ρ, S, Q, X, s, q, k, kx⟩ := q
  refine ⟨hh, ρ, S, _, X, s, q, fun x S1 vx H1 s1 e1 r1 q1 => ?_, kx⟩
  refine ⟨hh, ρ, S1, _, X, s1, q1, fun y S2 vy H2 s2 e2 r2 q2 => ?_, kx.to e1⟩
  exact h hh x y vx vy ρ σ S2 H2 Q Q' s2 (r1.mono e2) r2 q2 (k.to (e1.trans e2))
end MP

set_option Elab.async false
set_option linter.all false
set_option maxRecDepth 100000
set_option maxHeartbeats 4000000
/-! MP4: operators, comparisons, subscripts, built-ins by value. -/
namespace MP
open PySem PySem.Spec PyProof.Rows L2

/-! ### lists that are read only, as operands -/
section
variable {X : Cx} {pins : List (Addr × Obj)} {σ : L2.St} {H : Hp} {s : Shared} {l : Addr} {xs : List V}
theorem lstR (I : Inv X pins σ H s) (h : SqR X.K H l xs) : xs.length ≤ sizeLine ∧ ∃ (its : List Value) (n : Nat), Vals xs its ∧ xs.length = its.length ∧ s.heap.get? l = some { cls := .type "list", data := .seq its.toArray n } := by
  rcases h with h | ⟨its, n, hk, hz, r⟩
  · obtain ⟨z, its, n, r, e⟩ := h.ok I.hok
    exact ⟨z, its, n, r, r.length, e⟩
  · exact ⟨by rw [r.length]; simpa using hz, its.toList, n, r, r.length, by simpa using I.kIn _ _ hk⟩
def rCatR (K : PySem.W.Frag) : R2 := fun x y H Q => ∃ l b xs zs, x = .ref l ∧ y = .ref b ∧ SqR K H l xs ∧ SqR K H b zs ∧ xs.length + zs.length ≤ sizeLine ∧ ∀ p, H p = none → Q (.ref p) (upd H p (.lst (xs ++ zs)))
theorem op_catR : OpR X (binaryOp .Add) (rCatR X.K) := by
  intro pins s σ H x y v u Q I rx ry h
  obtain ⟨l, b, xs, zs, rfl, rfl, hH, hB, hz, q⟩ := h
  cases rx
  cases ry
  obtain ⟨z, its, n, r, hl, e⟩ := lstR I hH
  obtain ⟨z2, its2, n2, r2, hl2, e2⟩ := lstR I hB
  refine PySem.P.add_list e e2 ?_ (by rw [List.size_toArray, List.size_toArray]; omega)
  have ea : its.toArray ++ its2.toArray = (its ++ its2).toArray := by simp
  rw [ea]
  exact ⟨.ref _, _, I.lnew (t' := s.toks) (r.append r2) (by rw [List.length_append]; omega), rfl, q _ I.fresh⟩
def rRepR (K : PySem.W.Frag) : R2 := fun x y H Q => ∃ l k xs, x = .ref l ∧ y = .int k ∧ SqR K H l xs ∧ -(2 ^ 63) ≤ k ∧ k < 2 ^ 63 ∧ xs.length * k.toNat ≤ sizeLine ∧
  ∀ p, H p = none → Q (.ref p) (upd H p (.lst (List.replicate k.toNat xs).flatten))
theorem op_repR : OpR X (binaryOp .Mult) (rRepR X.K) := by
  intro pins s σ H x y v u Q I rx ry h
  obtain ⟨l, k, xs, rfl, rfl, hH, h1, h2, hz, q⟩ := h
  cases rx
  obtain ⟨t, rfl⟩ := ry
  obtain ⟨z, its, n, r, hl, e⟩ := lstR I hH
  have hlen : its.toArray.size * k.toNat ≤ sizeLine := by rw [List.size_toArray, ← hl]; exact hz
  have hcap : ¬ its.toArray.size * k.toNat > (2 ^ 63 - 1) / 8 := by
    have : (sizeLine : Nat) ≤ (2 ^ 63 - 1) / 8 := by decide
    omega
  have hfit : ¬ (!Builtin.List.listFitsIndex k) = true := by
    rw [fitsIndex_both h1 h2]
    exact Bool.false_ne_true
  have hlong : ¬ Builtin.List.listTooLong (its.toArray.size * k.toNat) = true := by
    rw [notLongL hlen]
    exact Bool.false_ne_true
  have hnew : List.foldl (fun x1 x2 => x1 ++ x2) #[] (List.replicate (if its.toArray.isEmpty = true then 0 else k.toNat) its.toArray) = (List.replicate k.toNat its).flatten.toArray := by
    have f0 : ∀ m : Nat, List.foldl (fun x1 x2 => x1 ++ x2) #[] (List.replicate m its.toArray) = (List.replicate m its).flatten.toArray := fun m => by
      have := foldl_rep its m []
      rw [List.nil_append] at this
      exact this
    rw [f0]
    cases its with
    | nil => simp
    | cons a r' => rw [if_neg (by simp)]
  refine wpAny_binaryOp_repeat_ref (T := "list") (U := "int") (by decide) ⟨_, e, rfl⟩ (fun s' => typeIs_int s' k t) noFill_list_mul F.fills_int_mul F.slot_int_rmul repeat_list F.slot_int_index.lookup
    (call_meets F.slot_int_rmul (typeIs_int s k t) F.entry_int_rmul (F.args_int_rmul_2 _ _) (int___rmul___int_list k t l its.toArray n)
      ⟨e, rfl, ⟨_, e, rfl⟩, call_meets F.slot_list_mul ⟨_, e, rfl⟩ F.entry_list_mul (F.args_list_mul_2 _ _) (AutoListH.list___mul___list_int_3 l its.toArray n k t hfit hcap hlong) ⟨e, ?_⟩⟩)
  rw [hnew]
  exact ⟨.ref _, _, I.lnew (t' := s.toks) (r.rep k.toNat) (by rw [PyProof.Rows.lm_len_rep_flat, Nat.mul_comm]; exact hz), rfl, q _ I.fresh⟩
end

/-! ### binary operators -/
def rMulS : R2 := fun x y H Q => ∃ z k, x = .str z ∧ y = .int k ∧ ((k = 0 ∧ Q (.str Str.empty) H) ∨ (k = 1 ∧ Q (.str z) H))
theorem op_mulS {X : Cx} : OpR X (binaryOp .Mult) rMulS := by
  intro pins s σ H x y v u Q I rx ry h
  obtain ⟨z, k, rfl, rfl, h⟩ := h
  obtain ⟨t, rfl⟩ := rx
  obtain ⟨t', rfl⟩ := ry
  rcases h with ⟨rfl, q⟩ | ⟨rfl, q⟩
  · exact PySem.P.mul_str_none (by decide) (by decide) ⟨.str _, H, I.tok _, ⟨_, rfl⟩, q⟩
  · refine PySem.P.mul_str (by decide) (fun _ e => by simp at e) (fun _ e => by simp at e) ?_
    rw [if_neg (by decide), if_pos (by simp)]
    exact ⟨.str z, H, I.tok _, ⟨_, rfl⟩, q⟩
def rBop (K : PySem.W.Frag) : Bop → R2
  | .add => fun x y H Q => ((rI0 fun i j => .int (i + j)) x y H Q ∨ (∃ i j, x = .str i ∧ y = .str j ∧ i.length + j.length ≤ sizeLine ∧ Q (.str (i ++ j)) H)) ∨ (rCatA K x y H Q ∨ rCatR K x y H Q)
  | .sub => rI0 fun i j => .int (i - j)
  | .mul => fun x y H Q => ((rI CMulW fun i j => .int (i * j)) x y H Q ∨ rMulS x y H Q) ∨ rRepR K x y H Q
  | .fdiv => rI CDivW fun i j => .int (i / j)
  | .mod => rI (fun _ j => 0 < j) fun i j => .int (i % j)
  | .pow => rI CPow fun i j => .int (i ^ j.toNat)
theorem op_bop {X : Cx} : ∀ b : Bop, OpR X (binaryOp b.op) (rBop X.K b)
  | .add => (op_add.or op_add_str).or (op_catA.or op_catR)
  | .sub => op_sub
  | .mul => (op_mulW.or op_mulS).or op_repR
  | .fdiv => op_fdivW
  | .mod => op_mod
  | .pow => op_pow
theorem ops_bop {C : Ctx} {live : Bool} (b : Bop) : OpS C (bopW live b) (rBop C.K.K b) := by
  intro x y vx vy ρ σ S H Q Q' s rx ry g k
  unfold bopW at g
  split at g
  · cases rx; cases ry
    exact .inl (.inl ⟨_, _, rfl, rfl, k.give s (.int _) g⟩)
  · cases rx; cases ry
    exact .inl (.inr ⟨_, _, rfl, rfl, g.1, k.give s (.str _) g.2⟩)
  · obtain ⟨ne, hl, q⟩ := g
    obtain ⟨a, us, rfl, ha, ra⟩ := tup_sq rx
    obtain ⟨b, vs, rfl, hb, rb⟩ := tup_sq ry
    have ne' : us ≠ [] := fun e => by subst e; cases ra; exact ne rfl
    refine .inr (.inl ⟨a, b, us, vs, rfl, rfl, .of ha, .of hb, by rw [← ra.length, ← rb.length]; exact hl, fun e => absurd e ne', fun _ e => ?_, fun _ _ => k.newTup s (ra.append rb) q⟩)
    subst e
    cases rb
    rw [List.append_nil] at q
    exact k.give s rx q
  · obtain ⟨xs, ys, hx, hy, hl, q⟩ := g
    obtain ⟨a, us, rfl, ha, ra⟩ := rdL_sq s.sto rx hx
    obtain ⟨b, vs, rfl, hb, rb⟩ := rdL_sq s.sto ry hy
    exact .inr (.inr ⟨a, b, us, vs, rfl, rfl, ha, hb, by rw [← ra.length, ← rb.length]; exact hl, k.newLst s (ra.append rb) q⟩)
  · cases rx; cases ry
    exact ⟨_, _, rfl, rfl, k.give s (.int _) g⟩
  · cases rx; cases ry
    exact .inl (.inl ⟨_, _, rfl, rfl, g.1, k.give s (.int _) g.2⟩)
  · cases rx; cases ry
    exact .inl (.inr ⟨_, _, rfl, rfl, g.imp (fun z => ⟨z.1, k.give s (.str _) z.2⟩) fun z => ⟨z.1, k.give s (.str _) z.2⟩⟩)
  · cases ry
    obtain ⟨xs, hx, h1, h2, hl, q⟩ := g
    obtain ⟨a, us, rfl, ha, ra⟩ := rdL_sq s.sto rx hx
    exact .inr ⟨a, _, us, rfl, rfl, ha, h1, h2, by rw [← ra.length]; exact hl, k.newLst s (ra.rep _) q⟩
  · cases rx; cases ry
    exact ⟨_, _, rfl, rfl, g.1, k.give s (.int _) g.2⟩
  · cases rx; cases ry
    exact ⟨_, _, rfl, rfl, g.1, k.give s (.int _) g.2⟩
  · cases rx; cases ry
    exact ⟨_, _, rfl, rfl, g.1, k.give s (.int _) g.2⟩
  · exact g.elim

/-! ### comparisons -/
def rOrd (K : PySem.W.Frag) (f : Bool → Bool → Bool) : R2 := fun x y H Q => ∃ d e, Dp K H x d ∧ Dp K H y e ∧ PySem.W.alike d e = true ∧ d ≠ .none ∧ SeqAt.shaped d = true ∧ SeqAt.shaped e = true ∧ Q (.bl (f (PySem.W.dataLt d e) (PySem.W.dataLt e d))) H
theorem op_ord {X : Cx} (hu : X.A.units + 65 < cLine) {o : CmpOp} {f : Bool → Bool → Bool} (ho : (o = .Lt ∧ f = fun l _ => l) ∨ (o = .LtE ∧ f = fun _ g => !g) ∨ (o = .Gt ∧ f = fun _ g => g) ∨ (o = .GtE ∧ f = fun l _ => !l)) : OpR X (compareOp o) (rOrd X.K f) := by
  intro pins s σ H x y v u Q I rx ry h
  obtain ⟨d, e, hd, he, al, dn, sd, se, q⟩ := h
  obtain ⟨as, ra⟩ := Dp.reads I d x v hd rx
  obtain ⟨bs, rb⟩ := Dp.reads I e y u he ry
  have room : X.A.units + min d.depth e.depth < cLine := SeqAt.room_of_shaped sd (by omega)
  rcases ho with ⟨rfl, rfl⟩ | ⟨rfl, rfl⟩ | ⟨rfl, rfl⟩ | ⟨rfl, rfl⟩
  · exact PySem.W.lt_data ra rb al dn room ⟨.bl _, H, I, rfl, q⟩
  · exact PySem.W.le_data ra rb al dn room ⟨.bl _, H, I, rfl, q⟩
  · exact PySem.W.gt_data ra rb al dn room ⟨.bl _, H, I, rfl, q⟩
  · exact PySem.W.ge_data ra rb al dn room ⟨.bl _, H, I, rfl, q⟩
def rIsX : R2 := fun x y H Q => ((y = .non ∧ Q (.bl (decide (x = .non))) H) ∨ rIsB x y H Q) ∨ False
def rCmp (K : PySem.W.Frag) : CmpOp → R2
  | .Lt => fun x y H Q => (rI0 fun i j => .bl (decide (i < j))) x y H Q ∨ rOrd K (fun l _ => l) x y H Q
  | .LtE => fun x y H Q => (rI0 fun i j => .bl (decide (i ≤ j))) x y H Q ∨ rOrd K (fun _ g => !g) x y H Q
  | .Gt => fun x y H Q => (rI0 fun i j => .bl (decide (j < i))) x y H Q ∨ rOrd K (fun _ g => g) x y H Q
  | .GtE => fun x y H Q => (rI0 fun i j => .bl (decide (j ≤ i))) x y H Q ∨ rOrd K (fun l _ => !l) x y H Q
  | .Eq => rEqD K
  | .NotEq => rNeD K
  | .In => fun x y H Q => ((∃ i j, x = .str i ∧ y = .str j ∧ Q (.bl (!(Builtin.Str.occurrences j i 0 j.length 1).isEmpty)) H) ∨ rIn K false x y H Q) ∨ (rInD K x y H Q ∨ ∃ a o, y = .ref a ∧ DGet H a x o ∧ Q (.bl o.isSome) H)
  | .NotIn => fun x y H Q => ((∃ i j, x = .str i ∧ y = .str j ∧ Q (.bl (!(!(Builtin.Str.occurrences j i 0 j.length 1).isEmpty))) H) ∨ rIn K true x y H Q) ∨ (rNotInD K x y H Q ∨ ∃ a o, y = .ref a ∧ DGet H a x o ∧ Q (.bl (!o.isSome)) H)
  | .Is => fun x y H Q => (y = .non ∧ Q (.bl (decide (x = .non))) H) ∨ rIsB x y H Q
  | .IsNot => fun x y H Q => (y = .non ∧ Q (.bl (!decide (x = .non))) H) ∨ rNotB x y H Q
theorem op_inDict {X : Cx} (hu : X.A.units + 1 < cLine) : OpR X (compareOp .In) (fun x y H Q => ∃ a o, y = .ref a ∧ DGet H a x o ∧ Q (.bl o.isSome) H) := by
  intro pins s σ H x y v u Q I rx ry h
  obtain ⟨a, o, rfl, g, q⟩ := h
  cases ry
  exact d_in hu I g rx fun s' I' => ⟨.bl _, H, I', rfl, q⟩
theorem op_notInDict {X : Cx} (hu : X.A.units + 1 < cLine) : OpR X (compareOp .NotIn) (fun x y H Q => ∃ a o, y = .ref a ∧ DGet H a x o ∧ Q (.bl (!o.isSome)) H) := by
  intro pins s σ H x y v u Q I rx ry h
  obtain ⟨a, o, rfl, g, q⟩ := h
  cases ry
  exact d_notIn hu I g rx fun s' I' => ⟨.bl _, H, I', rfl, q⟩
theorem op_cmp {X : Cx} (hu : X.A.units + 65 < cLine) : ∀ o : CmpOp, OpR X (compareOp o) (rCmp X.K o)
  | .Lt => op_lt.or (op_ord hu (.inl ⟨rfl, rfl⟩))
  | .LtE => op_le.or (op_ord hu (.inr (.inl ⟨rfl, rfl⟩)))
  | .Gt => op_gt.or (op_ord hu (.inr (.inr (.inl ⟨rfl, rfl⟩))))
  | .GtE => op_ge.or (op_ord hu (.inr (.inr (.inr ⟨rfl, rfl⟩))))
  | .Eq => op_eqD (by omega)
  | .NotEq => op_neD (by omega)
  | .In => (op_in_str.or op_in_seq).or ((op_inD hu).or (op_inDict (by omega)))
  | .NotIn => (op_notin_str.or op_notIn_seq).or ((op_notInD hu).or (op_notInDict (by omega)))
  | .Is => op_isN.or op_isBl
  | .IsNot => op_notN.or op_notBl
theorem flat_v {K : KH} {F : Hp} {x : W} {v : V} (h : flatW x = true) (r : Rep K F x v) : flatV v = true := by
  cases r <;> first | rfl | exact h
theorem flat_vs {K : KH} {F : Hp} : ∀ {xs : List W} {vs : List V}, xs.all flatW = true → RepL K F xs vs → vs.all flatV = true
  | _, _, _, .nil => rfl
  | x :: xs, v :: vs, h, .cons a b => by
    rw [List.all_cons, Bool.and_eq_true] at h
    rw [List.all_cons, flat_v h.1 a, flat_vs h.2 b]
    rfl
/-- == of flat values, as data -/
theorem eqV_data {K : KH} {S : Sto} {H : Hp} {x y : W} {vx vy : V} {d e : PyData} (hx : Vw S x d) (hy : Vw S y e) (fx : flatW x = true) (fy : flatW y = true) (rx : Rep K (fz S H) x vx) (ry : Rep K (fz S H) y vy) :
    eqV vx vy = PyData.eqv d e := by
  cases rx <;> first
    | (cases hx; cases ry <;> first
        | (cases hy; first | rfl | (simp [eqV, PyData.eqv]; done) | (simp [eqV, PyData.eqv, Bool.beq_comm]; done))
        | exact absurd (show false = true from fy) Bool.false_ne_true)
    | exact absurd (show false = true from fx) Bool.false_ne_true
theorem inV_data {K : KH} {S : Sto} {H : Hp} {x : W} {vx : V} {d : PyData} (hx : Vw S x d) (fx : flatW x = true) (rx : Rep K (fz S H) x vx) : ∀ {ws : List W} {vs : List V} {ds : List PyData}, VwL S ws ds → ws.all flatW = true → RepL K (fz S H) ws vs →
    inV vx vs = ds.any fun z => PyData.eqv z d
  | _, _, _, .nil, _, .nil => rfl
  | w :: ws, v :: vs, e :: ds, .cons a b, h, .cons p q => by
    rw [List.all_cons, Bool.and_eq_true] at h
    have ih := inV_data hx fx rx b h.2 q
    unfold inV at ih ⊢
    rw [List.any_cons, List.any_cons, ih, eqV_data a hx h.1 fx p rx]
theorem isN_v {K : KH} {F : Hp} {x : W} {v : V} (r : Rep K F x v) : isN x = decide (v = .non) := by
  cases r <;> rfl
/-- a comparison's wish -/
def CmpS (C : Ctx) (g : W → W → Sto → (Bool → Prop) → Prop) (r : R2) : Prop := ∀ (x y : W) (vx vy : V) (S : Sto) (H : Hp) (Q : Bool → Prop) (Q' : VK), StoOk C.K S H → Rep C.K (fz S H) x vx → Rep C.K (fz S H) y vy →
  g x y S Q → (∀ b, Q b → Q' (.bl b) H) → r vx vy H Q'
theorem Vw.eqOk {S : Sto} {x : W} {d : PyData} (h : Vw S x d) : True := trivial
theorem cmps {C : Ctx} (o : CmpOp) : CmpS C (cmpW o) (rCmp C.K.K o) := by
  intro x y vx vy S H Q Q' s rx ry g k
  unfold cmpW at g
  split at g
  · cases rx; cases ry; exact .inl ⟨_, _, rfl, rfl, k _ g⟩
  · cases rx; cases ry; exact .inl ⟨_, _, rfl, rfl, k _ g⟩
  · cases rx; cases ry; exact .inl ⟨_, _, rfl, rfl, k _ g⟩
  · cases rx; cases ry; exact .inl ⟨_, _, rfl, rfl, k _ g⟩
  · obtain ⟨d, e, hd, he, al, dn, sd, se, q⟩ := g
    exact .inr ⟨d, e, hd.dp s rx, he.dp s ry, al, dn, sd, se, k _ q⟩
  · obtain ⟨d, e, hd, he, al, dn, sd, se, q⟩ := g
    exact .inr ⟨d, e, hd.dp s rx, he.dp s ry, al, dn, sd, se, k _ q⟩
  · obtain ⟨d, e, hd, he, al, dn, sd, se, q⟩ := g
    exact .inr ⟨d, e, hd.dp s rx, he.dp s ry, al, dn, sd, se, k _ q⟩
  · obtain ⟨d, e, hd, he, al, dn, sd, se, q⟩ := g
    exact .inr ⟨d, e, hd.dp s rx, he.dp s ry, al, dn, sd, se, k _ q⟩
  · obtain ⟨d, e, hd, he, sd, se, q⟩ := g
    exact ⟨d, e, hd.dp s rx, he.dp s ry, sd, se, k _ q⟩
  · obtain ⟨d, e, hd, he, sd, se, q⟩ := g
    exact ⟨d, e, hd.dp s rx, he.dp s ry, sd, se, k _ q⟩
  · unfold inWk at g
    split at g
    · cases rx; cases ry
      exact .inl (.inl ⟨_, _, rfl, rfl, k _ g⟩)
    · obtain ⟨f1, f2, d, ds, hd, hds, q⟩ := g
      obtain ⟨a, us, rfl, ha, ra⟩ := tup_sq ry
      refine .inl (.inr ⟨a, us, rfl, .inr (.of ha), flat_v f1 rx, flat_vs f2 ra, ?_⟩)
      rw [inV_data hd f1 rx hds f2 ra]
      exact k _ q
    · rcases g with ⟨ws, d, ds, hw, hd, hds, sd, sds, q⟩ | ⟨o, ho, q⟩
      · obtain ⟨a, us, rfl, ha, ra⟩ := rdL_sq s ry hw
        exact .inr (.inl ⟨d, ds, hd.dp s rx, .lst ha.sq (hds.dp s ra), sd, sds, k _ q⟩)
      · obtain ⟨a, r, rfl, g, z⟩ := rdD_get s ry rx ho
        refine .inr (.inr ⟨a, r, rfl, g, ?_⟩)
        rcases z with ⟨rfl, rfl⟩ | ⟨w, v, rfl, rfl, _⟩
        · exact k _ q
        · exact k _ q
  · unfold inWk at g
    split at g
    · cases rx; cases ry
      exact .inl (.inl ⟨_, _, rfl, rfl, k _ g⟩)
    · obtain ⟨f1, f2, d, ds, hd, hds, q⟩ := g
      obtain ⟨a, us, rfl, ha, ra⟩ := tup_sq ry
      refine .inl (.inr ⟨a, us, rfl, .inr (.of ha), flat_v f1 rx, flat_vs f2 ra, ?_⟩)
      rw [inV_data hd f1 rx hds f2 ra]
      exact k _ q
    · rcases g with ⟨ws, d, ds, hw, hd, hds, sd, sds, q⟩ | ⟨o, ho, q⟩
      · obtain ⟨a, us, rfl, ha, ra⟩ := rdL_sq s ry hw
        exact .inr (.inl ⟨d, ds, hd.dp s rx, .lst ha.sq (hds.dp s ra), sd, sds, k _ q⟩)
      · obtain ⟨a, r, rfl, g, z⟩ := rdD_get s ry rx ho
        refine .inr (.inr ⟨a, r, rfl, g, ?_⟩)
        rcases z with ⟨rfl, rfl⟩ | ⟨w, v, rfl, rfl, _⟩
        · exact k _ q
        · exact k _ q
  · obtain ⟨b, hb, q⟩ := g
    unfold isW at hb
    split at hb
    · cases ry
      cases hb
      exact .inl ⟨rfl, by rw [isN_v rx] at q; exact k _ q⟩
    · cases rx; cases ry; cases hb
      exact .inr ⟨_, _, rfl, rfl, k _ q⟩
    · cases hb
  · obtain ⟨b, hb, q⟩ := g
    unfold isW at hb
    split at hb
    · cases ry
      cases hb
      exact .inl ⟨rfl, by rw [isN_v rx] at q; exact k _ q⟩
    · cases rx; cases ry; cases hb
      exact .inr ⟨_, _, rfl, rfl, k _ q⟩
    · cases hb

/-! ### subscripts -/
theorem atI_rep {K : KH} {F : Hp} {ws : List W} {vs : List V} {i : Int} {w : W} (r : RepL K F ws vs) (h : atI ws i = some w) : ∃ v, atI vs i = some v ∧ Rep K F w v := by
  unfold atI at h ⊢
  rw [← r.length]
  cases e : ixN ws.length i with
  | none => rw [e] at h; cases h
  | some j =>
    rw [e] at h
    obtain ⟨v, h1, h2⟩ := r.get (i := j) (w := w) h
    exact ⟨v, h1, h2⟩
def rIxD : R2 := fun x y H Q => ∃ a v, x = .ref a ∧ DGet H a y (some v) ∧ Q v H
theorem ix_dict {X : Cx} (hu : X.A.units + 1 < cLine) : IxR X rIxD := by
  intro value slice pins s σ H x y v u Q I rx ry h hs
  obtain ⟨a, w, rfl, g, q⟩ := h
  cases rx
  have hT := dict_typeIs I g
  unfold subscriptTail
  refine wpAny_bind ?_
  rw [getitemInPython_of_ne hT.not_modules]
  refine wpAny_bind (wpAny_specialOf hT PySem.F.slot_dict_getitem.lookup ?_)
  have fin : wpAny (model X.prog X.w) X.A (subscripted slice false (.ref a) u) (fun r s₃ => wpAny (model X.prog X.w) X.A (letTemporaryGo value (.ref a) r >>= fun _ => pure r) (EP X pins σ Q) X.xe s₃) X.xe s := by
    rw [hs]
    exact wpAny_operating (wpAny_mono (d_getItem hu I g ry fun w' s3 I3 rw' => (⟨w, H, I3, rw', q⟩ : EP X pins σ Q w' s3)) (fun r s₃ h₃ => wpAny_bind (wpAny_letTemporaryGo (wpAny_pure h₃))) fun _ _ x => x)
  first
    | exact wpAny_pure (wpAny_bind fin)
    | exact wpAny_bind (wpAny_pure (wpAny_bind fin))
    | exact wpAny_bind fin
def rIdx (K : PySem.W.Frag) : R2 := fun x y H Q => rIx K x y H Q ∨ rIxD x y H Q
theorem ix_all {X : Cx} (hu : X.A.units + 1 < cLine) : IxR X (rIdx X.K) := ix_seq.or (ix_dict hu)
theorem ops_idx {C : Ctx} : OpS C idxW (rIdx C.K.K) := by
  intro x y vx vy ρ σ S H Q Q' s rx ry g k
  unfold idxW at g
  split at g
  · cases rx; cases ry
    obtain ⟨hz, c, hc, q⟩ := g
    exact .inl (.inr (.inr ⟨_, _, c, rfl, rfl, hz, hc, k.give s (.str _) q⟩))
  · cases ry
    obtain ⟨w, hw, q⟩ := g
    obtain ⟨a, us, rfl, ha, ra⟩ := tup_sq rx
    obtain ⟨v, hv, rv⟩ := atI_rep ra hw
    exact .inl (.inr (.inl ⟨a, us, _, v, rfl, rfl, .of ha, hv, k.give s rv q⟩))
  · cases ry
    obtain ⟨w, hw, q⟩ := g
    obtain ⟨a, us, rfl, ha, ra⟩ := rdL_sq s.sto rx rfl
    obtain ⟨v, hv, rv⟩ := atI_rep ra hw
    exact .inl (.inl ⟨a, us, _, v, rfl, rfl, ha.sq, hv, k.give s rv q⟩)
  · rcases g with ⟨ws, i, w, hl, rfl, hw, q⟩ | ⟨w, hw, q⟩
    · cases ry
      obtain ⟨a, us, rfl, ha, ra⟩ := rdL_sq s.sto rx hl
      obtain ⟨v, hv, rv⟩ := atI_rep ra hw
      exact .inl (.inl ⟨a, us, _, v, rfl, rfl, ha.sq, hv, k.give s rv q⟩)
    · obtain ⟨a, r, rfl, g, z⟩ := rdD_get s.sto rx ry hw
      rcases z with ⟨h, _⟩ | ⟨w', v, h, rfl, rv⟩
      · cases h
      · cases h
        exact .inr ⟨a, v, rfl, g, k.give s rv q⟩
  · exact g.elim
/-- o[i] by values, for o[i] op= e -/
def rGet (K : PySem.W.Frag) : V → V → Hp → VK → Prop := fun x y H Q => (∃ p xs i v, x = .ref p ∧ y = .int i ∧ SqL K H p xs ∧ atI xs i = some v ∧ Q v H) ∨ rIxD x y H Q
theorem pget {X : Cx} (hu : X.A.units + 1 < cLine) : PGet X (rGet X.K) := by
  intro pins s σ H x y v u Q I rx ry h
  rcases h with ⟨p, xs, i, z, rfl, rfl, hq, he, q⟩ | ⟨a, w, rfl, g, q⟩
  · cases rx
    obtain ⟨t, rfl⟩ := ry
    obtain ⟨its, r, pl, hz⟩ := I.list hq
    obtain ⟨j, h1, h2, h3, h4, h5⟩ := atI_get he
    obtain ⟨w, ew, rw'⟩ := r.get h2
    have hl := r.length
    have hn := line63
    have fin : EP X pins σ Q w s := ⟨z, H, I, rw', q⟩
    by_cases h0 : 0 ≤ i
    · have hj : i.toNat = j := by
        rw [seqIndex_of h0 h5] at h1
        exact Option.some.inj h1
      exact wpAny_getItem_list pl.isList h0 (by omega) (by rw [hj]; simpa using ew) fin
    · have hj : (i + (its.toArray.size : Int)).toNat = j := by
        rw [seqIndex_neg (by omega) h4] at h1
        rw [List.size_toArray, ← hl]
        exact Option.some.inj h1
      exact wpAny_getItem_list_neg pl.isList (by omega) (by rw [List.size_toArray] <;> omega) (by omega) (by rw [hj]; simpa using ew) fin
  · cases rx
    exact d_getItem hu I g ry fun w' s3 I3 rw' => ⟨w, H, I3, rw', q⟩
/-- the value got is an int -/
theorem get_int {C : Ctx} {x y : W} {vx vy : V} {ρ : Env} {σ : L2.St} {S : Sto} {H : Hp} {Q : WK} {Q' : VK} (s : Sim C.K ρ σ S H) (rx : Rep C.K (fz S H) x vx) (ry : Rep C.K (fz S H) y vy) (hx : ∃ a, x = .ref a)
    (g : idxW x y S Q) (k : Kv C ρ σ S H Q Q') : rGet C.K.K vx vy H Q' := by
  obtain ⟨a, rfl⟩ := hx
  have h := ops_idx (C := C) (.ref a) y vx vy ρ σ S H Q Q' s rx ry g k
  cases rx
  rcases h with (h | h | h) | h
  · exact .inl h
  · unfold idxW at g
    rcases g with ⟨ws, i, w, hl, rfl, hw, q⟩ | ⟨w, hw, q⟩
    · cases ry
      obtain ⟨a', us, e, ha, ra⟩ := rdL_sq s.sto (.ref a) hl
      cases e
      obtain ⟨v, hv, rv⟩ := atI_rep ra hw
      exact .inl ⟨a, us, _, v, rfl, rfl, ha.sq, hv, k.give s rv q⟩
    · obtain ⟨a', r, e, g, z⟩ := rdD_get s.sto (.ref a) ry hw
      cases e
      rcases z with ⟨h, _⟩ | ⟨w', v, h, rfl, rv⟩
      · cases h
      · cases h
        exact .inr ⟨a, v, rfl, g, k.give s rv q⟩
  · obtain ⟨z, i, c, e, _⟩ := h
    cases e
  · exact .inr h

/-! ### slices -/
theorem cut_rep {K : KH} {F : Hp} {ws : List W} {vs : List V} {lo hi : Option Int} (r : RepL K F ws vs) : RepL K F (cutW ws lo hi) (cutV vs lo hi) := by
  unfold cutW cutV
  rw [r.length]
  exact (r.drop _).take _
def rSlc (K : PySem.W.Frag) : V → Option Int → Option Int → Hp → VK → Prop := fun x lo hi H Q => (rSlL K x lo hi H Q ∨ rSlA K x lo hi H Q) ∨ rSlS x lo hi H Q
theorem sl_all {X : Cx} : SlR X (rSlc X.K) := (sl_list.or sl_tupA).or sl_str
theorem slcs {C : Ctx} {live : Bool} {x : W} {vx : V} {lo hi : Option Int} {ρ : Env} {σ : L2.St} {S : Sto} {H : Hp} {Q : WK} {Q' : VK} (s : Sim C.K ρ σ S H) (rx : Rep C.K (fz S H) x vx)
    (g : slcW live x lo hi S Q) (k : Kv C ρ σ S H Q Q') : rSlc C.K.K vx lo hi H Q' := by
  unfold slcW at g
  split at g
  · cases rx
    exact .inr ⟨_, rfl, g.1, k.give s (.str _) g.2⟩
  · rename_i ws
    obtain ⟨a, us, rfl, ha, ra⟩ := tup_sq rx
    refine .inl (.inr ⟨a, us, rfl, .of ha, fun h => ?_, fun h => k.newTup s (cut_rep ra) g⟩)
    have e : cutW ws lo hi = ws := by
      unfold cutW
      rw [ra.length, h.1, h.2, List.drop_zero, Nat.sub_zero, ← ra.length]
      exact List.take_length
    rw [e] at g
    exact k.give s rx g
  · obtain ⟨ws, hw, q⟩ := g
    obtain ⟨a, us, rfl, ha, ra⟩ := rdL_sq s.sto rx hw
    exact .inl (.inl ⟨a, us, rfl, ha.sq, k.newLst s (cut_rep ra) q⟩)

/-! ### stores -/
def rSetD : TSet := fun o i v H Q => ∃ a H', o = .ref a ∧ DPut H a i v H' ∧ Q H'
theorem set_dict {X : Cx} (hu : X.A.units + 1 < cLine) : PSet X rSetD := by
  intro pins s σ H o i v ov iv u Q I ro ri rv h
  obtain ⟨a, H', rfl, g, q⟩ := h
  cases ro
  exact d_setItem hu I g ri rv fun s' I' => ⟨H', I', q⟩
def rSetX : TSet := fun o i v H Q => rSetL o i v H Q ∨ rSetD o i v H Q
theorem set_all {X : Cx} (hu : X.A.units + 1 < cLine) : PSet X rSetX := by
  intro pins s σ H o i v ov iv u Q I ro ri rv h
  rcases h with h | h
  · exact set_list pins s σ H o i v ov iv u Q I ro ri rv h
  · exact set_dict hu pins s σ H o i v ov iv u Q I ro ri rv h
theorem sets {C : Ctx} {x i w : W} {vx vi v : V} {ρ : Env} {σ : L2.St} {S : Sto} {H : Hp} {Q : Sto → Prop} {Q' : Hp → Prop} (s : Sim C.K ρ σ S H) (rx : Rep C.K (fz S H) x vx) (ri : Rep C.K (fz S H) i vi) (rw' : Rep C.K (fz S H) w v)
    (g : setW x i w S Q) (k : ∀ S' H', Sim C.K ρ σ S' H' → Same (fz S H) (fz S' H') → Q S' → Q' H') : rSetX vx vi v H Q' := by
  obtain ⟨a, rfl, g⟩ := g
  cases rx
  have fin : ∀ {ob ob' : Ob} {o : HO}, S a = some ob → ObR C.K (fz S H) H a ob' o → Q (sup S a ob') → Q' (upd H a o) := fun {ob ob' o} h r q => by
    have e : Same (fz S H) (fz (sup S a ob') (upd H a o)) := by
      rw [fz_put h]
      exact Same.refl _
    exact k _ _ (s.to e (s.sto.put h r)) e q
  rcases g with ⟨ws, j, n, hs, rfl, hn, q⟩ | ⟨kvs, kk, hs, hk, hl, q⟩ | ⟨kvs, ks, kk, hs, rfl, hk, hl, q⟩
  · cases ri
    obtain ⟨u, hu, r⟩ := s.sto.at' a _ hs
    obtain ⟨vs, rfl, r⟩ := r
    exact .inl ⟨a, vs, _, n, rfl, rfl, hu, by rw [← r.length]; exact hn, fin (ob' := .lst (ws.set n w)) hs ⟨_, rfl, r.set rw' n⟩ q⟩
  · obtain ⟨u, hu, r⟩ := s.sto.at' a _ hs
    obtain ⟨vs, rfl, r⟩ := r
    refine .inr ⟨a, _, rfl, .inl ⟨vs, kk, hu, keyW_v hk ri, by rw [← kvr_len r]; exact hl, rfl⟩, fin (ob' := .dk (setK kvs kk w)) hs ⟨_, rfl, kvr_put r rw'⟩ q⟩
  · obtain ⟨u, hu, r⟩ := s.sto.at' a _ hs
    obtain ⟨vs, rfl, r⟩ := r
    obtain ⟨b, us, rfl, hb, ru⟩ := tup_sq ri
    refine .inr ⟨a, _, rfl, .inr ⟨vs, kk, b, hu, rfl, by rw [hb, keysW_v hk ru], by rw [← kvr_len r]; exact hl, rfl⟩, fin (ob' := .dt (setK kvs kk w)) hs ⟨_, rfl, kvr_put r rw'⟩ q⟩
end MP

set_option Elab.async false
set_option linter.all false
set_option maxRecDepth 100000
set_option maxHeartbeats 4000000
/-! MP4b: dict(pairs), list(dict): the layer's side. -/
namespace MP
open PySem PySem.Spec PyProof.Rows L2

section
variable {κ : Type} [DecidableEq κ]
def putsV (acc more : List (κ × V)) : List (κ × V) := more.foldl (fun acc kv => putK acc kv.1 kv.2) acc
theorem putsV_le : ∀ more acc : List (κ × V), (putsV acc more).length ≤ acc.length + more.length
  | [], _ => Nat.le_refl _
  | kv :: more, acc => by
    have h1 := putsV_le more (putK acc kv.1 kv.2)
    have h2 := length_putK acc kv.1 kv.2
    show (putsV (putK acc kv.1 kv.2) more).length ≤ _
    rw [List.length_cons]
    omega
end
theorem kt_puts {H : Hp} : ∀ {more : List (List Key × V)} {rs : List (List Key × Addr × Value)}, KT H more rs → ∀ {acc : List (List Key × V)} {xs : List (List Key × Addr × Value)}, KT H acc xs → KT H (putsV acc more) (storedAllH xs rs) := by
  intro more rs r
  induction r with
  | nil => intro acc xs q; exact q
  | cons h t ih =>
    intro acc xs q
    obtain ⟨h1, h2, h3⟩ := h
    have e := q.put _ h2 h3
    rename_i p r _ _
    have e2 : storedH xs p.1 r.2.1 r.2.2 = storedH xs r.1 r.2.1 r.2.2 := by rw [h1]
    rw [e2] at e
    exact ih e
/-- the pairs' addresses: each a tuple of a key's tuple and a value -/
abbrev PrsT (H : Hp) : List Addr → List (List Key × V) → Prop := Paired fun p kv => ∃ b, H p = some (.tup [.ref b, kv.2]) ∧ H b = some (.tup (kv.1.map kV))
section
variable {X : Cx} {pins : List (Addr × Obj)} {σ : L2.St} {H : Hp} {s : Shared}
theorem prsT_of (I : Inv X pins σ H s) : ∀ {ps : List Addr} {kvs : List (List Key × V)}, PrsT H ps kvs →
    ∃ rs : List (List Key × Addr × Value), KT H kvs rs ∧ rs.length = ps.length ∧ ∀ (j : Nat) (q : List Key × Addr × Value), rs[j]? = some q → ∃ p : Addr, ps[j]? = some p ∧ IsTup s.heap p #[.ref q.2.1, q.2.2]
  | _, _, .nil => ⟨[], .nil, rfl, fun j q e => by simp at e⟩
  | _, _, .cons (a := p) (b := kv) h t => by
    obtain ⟨rs, r1, r2, r3⟩ := prsT_of I t
    obtain ⟨b, hp, hb⟩ := h
    obtain ⟨its, rv, ht, _⟩ := I.tuple (SqT.of hp)
    obtain ⟨u, y, rfl, ru, ry⟩ := vals2 rv
    cases ru
    refine ⟨(kv.1, b, y) :: rs, .cons ⟨rfl, hb, ry⟩ r1, by rw [List.length_cons, List.length_cons, r2], fun j q e => ?_⟩
    cases j with
    | zero =>
      cases (Option.some.inj e : (kv.1, b, y) = q)
      exact ⟨p, rfl, ht⟩
    | succ j => exact r3 j q e
end
def rDictT (K : PySem.W.Frag) : List V → Hp → VK → Prop := fun xs H Q => ∃ (a : Addr) (ps : List Addr) (kvs : List (List Key × V)), xs = [.ref a] ∧ SqL K H a (ps.map V.ref) ∧ PrsT H ps kvs ∧
    ∀ p, H p = none → Q (.ref p) (upd H p (.dT (putsV [] kvs)))
theorem call_dictT {X : Cx} (hcalm : X.calm = true) (hu : X.A.units + 66 < cLine) : CallR X (.type "dict") (rDictT X.K) := by
  intro pins s σ H xs us Q I r q
  obtain ⟨a, ps, kvs, rfl, hq, hp, q⟩ := q
  obtain ⟨u, rfl, rx⟩ := r.one
  cases rx
  obtain ⟨its, rv, pl, hz⟩ := I.list hq
  have ei := refs_at rv
  subst ei
  rw [List.length_map] at hz
  obtain ⟨rs, rel, hl, hpr⟩ := prsT_of I hp
  have hkvl : kvs.length = rs.length := Paired.length rel
  let pps : List (Value × Value) := rs.map fun x => (Value.ref x.2.1, x.2.2)
  let Ts : Nat → Addr := fun j => ps.getD j 0
  have hpl : pps.length = ps.length := by show (rs.map _).length = _; rw [List.length_map, hl]
  have P := PairArg.list (prog := X.prog) (w := X.w) a (ps.map Value.ref).toArray Ts pps
  obtain ⟨o, n, ho, hc, hd, hdat⟩ := pl
  have pat : ∀ j x, rs[j]? = some x → ∃ p, ps[j]? = some p ∧ Ts j = p ∧ s.heap.IsTuple p #[.ref x.2.1, x.2.2] := fun j x e => by
    obtain ⟨p, e1, o2, e2, e3, n2, e4⟩ := hpr j x e
    exact ⟨p, e1, by show ps.getD j 0 = p; rw [List.getD_eq_getElem?_getD, e1]; rfl, o2, e2, e3, n2, e4⟩
  have hok : PlainSeq "list" s.heap a (ps.map Value.ref).toArray ∧ PairItems s.heap (ps.map Value.ref).toArray Ts pps := by
    refine ⟨⟨o, n, ho, hc, hd, hdat⟩, by simp [hpl], fun j k v e => ?_⟩
    obtain ⟨x, hx, e'⟩ : ∃ x, rs[j]? = some x ∧ (Value.ref x.2.1, x.2.2) = (k, v) := by
      have e2 : (rs.map fun x => (Value.ref x.2.1, x.2.2))[j]? = some (k, v) := e
      rw [List.getElem?_map] at e2
      cases q : rs[j]? with
      | none => rw [q] at e2; cases e2
      | some x => rw [q] at e2; exact ⟨x, rfl, Option.some.inj e2⟩
    cases e'
    obtain ⟨p, e1, e2, e3⟩ := pat j x hx
    exact ⟨by rw [e2]; simp [e1], .inl (by rw [e2]; exact e3)⟩
  have keyIs' : ∀ x ∈ rs, (tupleKind (mixKind X.prog X.w)).is s.heap x.1 x.2.1 := by
    have all : ∀ {l : List (List Key × V)} {m : List (List Key × Addr × Value)}, KT H l m → ∀ x ∈ m, (tupleKind (mixKind X.prog X.w)).is s.heap x.1 x.2.1 := by
      intro l m t
      induction t with
      | nil => intro x hx; cases hx
      | cons h t ih =>
        intro x hx
        rcases List.mem_cons.mp hx with rfl | hx
        · exact key_of I.hok (by rw [← h.1]; exact h.2.1)
        · exact ih x hx
    exact all rel
  refine PySem.call_dict_pairsH (A := X.A) (knd := tupleKind (mixKind X.prog X.w)) (ps := rs) P (I.ok.hd hcalm) ?_ hok ⟨by rw [hpl, hl], fun i key v e => ?_⟩ (fun h' hk x hx => ?_) (by rw [hpl]; exact hz) fun h' tk hd' hk => ?_
  · exact tupleKind_room_in1 (by show X.A.units + 1 + 1 < cLine; omega)
  · have e2 : (rs.map fun x => (Value.ref x.2.1, x.2.2))[i]? = some (key, v) := e
    rw [List.getElem?_map] at e2
    cases q : rs[i]? with
    | none => rw [q] at e2; cases e2
    | some x =>
      rw [q] at e2
      cases (Option.some.inj e2)
      exact ⟨x.1, x.2.1, rfl, rfl⟩
  · obtain ⟨o2, it2, n2, e1, e2, e3, e4⟩ := keyIs' x hx
    exact ⟨o2, it2, n2, hk _ _ (Nat.ne_of_lt (Heap.lt_size e1)) (by simp) e1, e2, e3, e4⟩
  · have hlen : (putsV [] kvs).length ≤ sizeLine := by
      have := putsV_le kvs []
      rw [List.length_nil] at this
      omega
    have hm : (s.heap.objs.size == sysModules) = false := beq_eq_false_iff_ne.mpr (Nat.ne_of_gt I.big)
    obtain ⟨q1, es, ep, hq1, h2, h3, h4, _, h5⟩ := hd'
    refine ⟨.ref s.heap.objs.size, upd H s.heap.objs.size (.dT (putsV [] kvs)), I.laid (t' := tk) (fun b o e => hk b o (by simp) e) (Nat.le_refl _) ⟨hlen, hm, _, (kt_puts rel .nil).keeps fun c ys ec => ?_, q1, es, ep, hq1, h2, h3, h4, h5⟩, rfl, q _ (I.hok.fresh (Nat.le_refl _))⟩
    rw [upd_ne (ne_of_none ec (I.hok.fresh (Nat.le_refl _)))]
    exact ec
end MP

set_option Elab.async false
set_option linter.all false
set_option maxRecDepth 100000
set_option maxHeartbeats 4000000
/-! MP4c: list(zip(a, b)): the layer's side. -/
namespace MP
open PySem PySem.Spec PySem.Calls PyProof.Rows L2

theorem zq_len : typeLookup (.type "zip") "__len__" = pure none := by rw [typeLookup_type, builtinLookup_eq_fast]; kernel_rfl
theorem zq_hint : typeLookup (.type "zip") "__length_hint__" = pure none := by rw [typeLookup_type, builtinLookup_eq_fast]; kernel_rfl
/-- the objects of a zip of two lists at the addresses l, m -/
structure ZAd where
  z : Addr
  TI : Addr
  TO : Addr
  i : Addr
  j : Addr
  l : Addr
  m : Addr
abbrev ZAd.ap (a : ZAd) : Prop := ZipApart a.z a.TI a.TO a.i a.j a.l a.m
/-- k pairs were drawn; the last of them is still out -/
structure ZAt (a : ZAd) (xs ys : Array Value) (S : Addr) (k : Nat) (h : Heap) : Prop where
  pr : IsPair h a.TI (.ref a.i) (.ref a.j)
  fst : h.IsListIter a.i a.l k
  snd : h.IsListIter a.j a.m k
  ls : h.IsList a.l xs
  ms : h.IsList a.m ys
  to : ∃ u v, IsPair h a.TO u v
  z : IsZip h a.z a.TI a.TO .none ∨ ∃ T f o, IsZipHeld h a.z a.TI a.TO T f ∧ h.get? T = some o ∧ T ≠ a.z ∧ T ≠ a.i ∧ T ≠ a.j ∧ T ≠ S
theorem ZAt.stay {a : ZAd} {xs ys : Array Value} {S : Addr} {k : Nat} {h h' : Heap} (x : ZAt a xs ys S k h) (off : S ∉ [a.z, a.TI, a.TO, a.i, a.j, a.l, a.m]) (hk : ∀ b o, b ≠ S → h.get? b = some o → h'.get? b = some o) : ZAt a xs ys S k h' := by
  simp only [List.mem_cons, List.not_mem_nil, or_false, not_or] at off
  obtain ⟨n1, n2, n3, n4, n5, n6, n7⟩ := off
  refine ⟨hk _ _ (Ne.symm n2) x.pr, x.fst.at fun o e => hk _ o (Ne.symm n4) e, x.snd.at fun o e => hk _ o (Ne.symm n5) e, x.ls.at fun o e => hk _ o (Ne.symm n6) e, x.ms.at fun o e => hk _ o (Ne.symm n7) e, (let ⟨u, v, e⟩ := x.to; ⟨u, v, hk _ _ (Ne.symm n3) e⟩), ?_⟩
  rcases x.z with h1 | ⟨T, f, o, h1, h2, q1, q2, q3, q4⟩
  · exact .inl (hk _ _ (Ne.symm n1) h1)
  · exact .inr ⟨T, f, o, hk _ _ (Ne.symm n1) h1, hk _ _ q4 h2, q1, q2, q3, q4⟩
/-- what else is left alone -/
def ZOff (a : ZAd) (b : Addr) : Prop := b ≠ a.z ∧ b ≠ a.TO ∧ b ≠ a.i ∧ b ≠ a.j
structure ZLow (a : ZAd) (S : Addr) : Prop where
  z : a.z < S
  TO : a.TO < S
  i : a.i < S
  j : a.j < S
theorem ZLow.off {a : ZAd} {S p : Addr} (x : ZLow a S) (h : S ≤ p) : ZOff a p :=
  ⟨Nat.ne_of_gt (Nat.lt_of_lt_of_le x.z h), Nat.ne_of_gt (Nat.lt_of_lt_of_le x.TO h), Nat.ne_of_gt (Nat.lt_of_lt_of_le x.i h), Nat.ne_of_gt (Nat.lt_of_lt_of_le x.j h)⟩
section
variable {prog : Program} {w : World} {A : Around} {E : Value → Shared → Prop} {s : Shared} {a : ZAd} {xs ys : Array Value} {S : Addr} {k : Nat}
theorem zq_next {x y : Value} {Q : Option Value → Shared → Prop} (D : a.ap) (hS : S < s.heap.objs.size) (st : ZAt a xs ys S k s.heap) (hx : xs[k]? = some x) (hy : ys[k]? = some y)
    (hQ : ∀ h', ZAt a xs ys S (k + 1) h' → IsPair h' s.heap.objs.size x y → (∀ b o, ZOff a b → s.heap.get? b = some o → h'.get? b = some o) → Q (some (.ref s.heap.objs.size)) { s with heap := h' }) : wpAny (model prog w) A (pyNext (.ref a.z)) Q E s := by
  have new : ∀ {b : Addr} {o : Obj}, s.heap.get? b = some o → s.heap.objs.size ≠ b := fun e => Nat.ne_of_gt (Heap.lt_size e)
  obtain ⟨oi, ei, _⟩ := id st.fst
  obtain ⟨oj, ej, _⟩ := id st.snd
  obtain ⟨u, v, hto⟩ := id st.to
  rcases st.z with h1 | ⟨T, f, o, h1, h2, q1, q2, q3, q4⟩
  · refine wpAny_pyNext_zip_item D h1 st.pr hto st.fst st.snd st.ls st.ms hx hy fun h' a1 a2 a3 a4 a5 a6 kp => ?_
    refine hQ h' ⟨kp _ _ D.TIz D.TITO D.TIi1 D.TIi2 st.pr, a3, a4, st.ls.at fun o e => kp _ o D.l1z D.l1TO D.l1i1 D.l1i2 e, st.ms.at fun o e => kp _ o D.l2z D.l2TO D.l2i1 D.l2i2 e,
      ⟨_, _, a2⟩, .inr ⟨_, false, _, a1, a5, new h1, new ei, new ej, Nat.ne_of_gt hS⟩⟩ a5 fun b o n e => kp b o n.1 n.2.1 n.2.2.1 n.2.2.2 e
  · refine wpAny_pyNext_zip_item_held D h1 h2 st.pr st.fst st.snd st.ls st.ms hx hy fun h' a1 a3 a4 a5 a6 kp => ?_
    refine hQ h' ⟨kp _ _ D.TIz D.TIi1 D.TIi2 st.pr, a3, a4, st.ls.at fun o e => kp _ o D.l1z D.l1i1 D.l1i2 e, st.ms.at fun o e => kp _ o D.l2z D.l2i1 D.l2i2 e,
      ⟨u, v, kp _ _ D.TOz D.TOi1 D.TOi2 hto⟩, .inr ⟨T, true, o, a1, kp _ _ q1 q2 q3 h2, q1, q2, q3, q4⟩⟩ a5 fun b o n e => kp b o n.1 n.2.2.1 n.2.2.2 e
theorem zq_stop {Q : Option Value → Shared → Prop} (hh : A.handled = none) (D : a.ap) (st : ZAt a xs ys S k s.heap) (he : xs[k]? = none ∨ ys[k]? = none)
    (hQ : ∀ h', (∀ b o, ZOff a b → s.heap.get? b = some o → h'.get? b = some o) → Q none { s with heap := h' }) : wpAny (model prog w) A (pyNext (.ref a.z)) Q E s := by
  obtain ⟨u, v, hto⟩ := id st.to
  rcases st.z with h1 | ⟨T, f, o, h1, h2, q1, q2, q3, q4⟩
  · exact wpAny_pyNext_zip_end hh D h1 st.pr hto st.fst st.snd st.ls st.ms he fun h' kp => hQ h' fun b o n e => kp b o n.1 n.2.1 n.2.2.1 n.2.2.2 e
  · exact wpAny_pyNext_zip_end_held hh D h1 h2 st.pr st.fst st.snd st.ls st.ms he fun h' kp => hQ h' fun b o n e => kp b o n.1 n.2.2.1 n.2.2.2 e
end
/-- the pairs drawn so far: new tuples, one above the other -/
structure ZGot (xs ys : Array Value) (lo : Addr) (h : Heap) (as : List Addr) : Prop where
  up : as.Pairwise (· < ·)
  over : ∀ p ∈ as, lo < p
  is : ∀ (j : Nat) (p : Addr), as[j]? = some p → ∃ x y, xs[j]? = some x ∧ ys[j]? = some y ∧ IsPair h p x y
section
variable {prog : Program} {w : World} {A : Around} {s : Shared} {R : Result → Shared → Prop} {a : ZAd} {xs ys : Array Value} {S : Addr}
abbrev lsObj (acc : Array Value) (c : Nat) : Obj := { cls := .type "list", dict := none, data := .seq acc c, slots := #[] }
theorem zq_loop {h0 : Heap} (hh : A.handled = none) (D : a.ap) (off : S ∉ [a.z, a.TI, a.TO, a.i, a.j, a.l, a.m]) (low : ZLow a S) (hn : min xs.size ys.size ≤ sizeLine) (res : Value)
    (hR : ∀ h' tk acc c as, (∀ b o, b ≠ S → ZOff a b → h0.get? b = some o → h'.get? b = some o) → h'.get? S = some (lsObj acc c) → acc.toList = as.map Value.ref → as.length = min xs.size ys.size → ZGot xs ys S h' as → R (.ok (.ret res)) { s with heap := h', toks := tk }) :
    ∀ (more k : Nat) (h : Heap) (tk c : Nat) (acc : Array Value) (as : List Addr), more + k = min xs.size ys.size → ZAt a xs ys S k h → (∀ b o, b ≠ S → ZOff a b → h0.get? b = some o → h.get? b = some o) →
      h.get? S = some (lsObj acc c) → acc.toList = as.map Value.ref → as.length = k → ZGot xs ys S h as → codeAny (model prog w) A (.builtin "list.extend.loop" ⟨[.ref S, .ref a.z, res], []⟩) R { s with heap := h, toks := tk } := by
  intro more
  induction more with
  | zero =>
    intro k h tk c acc as hm st kp hS hacc hl g
    refine codeAny_builtin PySem.F.entry_extend_loop ?_
    rw [Around.under_plainId PySem.F.plain_extend_loop _]
    show wpAny _ A.in1 (pyNext (.ref a.z) >>= _) _ _ _
    refine wpAny_bind (zq_stop (s := { s with heap := h, toks := tk }) (A := A.in1) hh D st ?_ fun h' k' => ?_)
    · rcases Nat.le_total xs.size ys.size with q | q
      · exact .inl (Array.getElem?_eq_none (by omega))
      · exact .inr (Array.getElem?_eq_none (by omega))
    · have offS : ZOff a S := low.off (Nat.le_refl _)
      refine wpAny_pure (hR h' tk acc c as (fun b o n1 n2 e => k' b o n2 (kp b o n1 n2 e)) (k' S _ offS hS) hacc (by omega) ⟨g.up, g.over, fun j p e => ?_⟩)
      obtain ⟨x, y, e1, e2, e3⟩ := g.is j p e
      have := g.over p (List.mem_of_getElem? e)
      exact ⟨x, y, e1, e2, k' p _ (low.off (Nat.le_of_lt this)) e3⟩
  | succ more ih =>
    intro k h tk c acc as hm st kp hS hacc hl g
    have kx : k < xs.size := by omega
    have ky : k < ys.size := by omega
    have hsz : acc.size = k := by rw [← Array.length_toList, hacc, List.length_map, hl]
    have hSl : S < h.objs.size := Heap.lt_size hS
    refine codeAny_builtin PySem.F.entry_extend_loop ?_
    rw [Around.under_plainId PySem.F.plain_extend_loop _]
    show wpAny _ A.in1 (pyNext (.ref a.z) >>= _) _ _ _
    refine wpAny_bind (zq_next (s := { s with heap := h, toks := tk }) (A := A.in1) D hSl st (Array.getElem?_eq_getElem kx) (Array.getElem?_eq_getElem ky) fun h' st' pT k' => ?_)
    have offS : ZOff a S := low.off (Nat.le_refl _)
    have hS' := k' S _ offS hS
    have far : ∀ b o, b ≠ S → h'.get? b = some o → (h'.update S (Obj.mapSeq (·.push (Value.ref h.objs.size)))).get? b = some o := fun b o n e => (Heap.get?_update_other _ _ (Ne.symm n)).trans e
    show wpAny _ A.in1 (updateSeq S (·.push (Value.ref h.objs.size)) >>= _) _ _ _
    refine wpAny_bind ?_
    refine wpAny_updateSeq hS' rfl (wpAny_pure ⟨plainId_quiet PySem.F.plain_extend_loop _, ih (k + 1) _ tk _ (acc.push (Value.ref h.objs.size)) (as ++ [h.objs.size]) (by omega) (st'.stay off far)
      (fun b o n1 n2 e => far b o n1 (k' b o n2 (kp b o n1 n2 e))) (Heap.get?_update_self _ hS' rfl) (by rw [Array.toList_push, hacc, List.map_append]; rfl) (by rw [List.length_append, hl]; rfl) ⟨?_, fun p hp => ?_, fun j p e => ?_⟩⟩)
      (by rw [hsz]; omega) (by show (acc.push (Value.ref h.objs.size)).size ≤ sizeLine + 1; rw [Array.size_push, hsz]; omega)
    · refine List.pairwise_append.mpr ⟨g.up, List.pairwise_singleton _ _, fun p hp q hq => ?_⟩
      rw [List.mem_singleton.mp hq]
      obtain ⟨j, hj2⟩ := List.mem_iff_getElem?.mp hp
      obtain ⟨_, _, _, _, e⟩ := g.is j p hj2
      exact Heap.lt_size e
    · rcases List.mem_append.mp hp with hp | hp
      · exact g.over p hp
      · rw [List.mem_singleton.mp hp]; exact hSl
    · by_cases hjk : j < as.length
      · rw [List.getElem?_append_left hjk] at e
        obtain ⟨x, y, e1, e2, e3⟩ := g.is j p e
        have := g.over p (List.mem_of_getElem? e)
        exact ⟨x, y, e1, e2, far p _ (Nat.ne_of_gt this) (k' p _ (low.off (Nat.le_of_lt this)) e3)⟩
      · rw [List.getElem?_append_right (by omega)] at e
        have hj0 : j - as.length = 0 := by
          rcases Nat.eq_zero_or_pos (j - as.length) with q | q
          · exact q
          · rw [List.getElem?_eq_none (by simp; omega)] at e; cases e
        rw [hj0] at e
        cases e
        have : j = k := by omega
        subst this
        exact ⟨_, _, Array.getElem?_eq_getElem kx, Array.getElem?_eq_getElem ky, far _ _ (Nat.ne_of_gt hSl) pT⟩
end
section
variable {prog : Program} {w : World} {A : Around} {E : Value → Shared → Prop} {s : Shared} {a : ZAd} {xs ys : Array Value}
theorem zq_nohint {r : Addr} (hT : s.TypeIs (.ref r) "zip") {Q : Bool → Shared → Prop} (h : Q true s) : wpAny (model prog w) A (Builtin.List.listLengthHint (.ref r)) Q E s := by
  unfold Builtin.List.listLengthHint
  refine wpAny_bind (wpAny_specialOf hT zq_len ?_)
  refine wpAny_ite_split (fun q => absurd q (by decide +kernel)) fun _ => ?_
  refine wpAny_ite_split (fun q => absurd q (by decide)) fun _ => ?_
  refine wpAny_bind (wpAny_specialOf hT zq_hint ?_)
  exact wpAny_pure h
theorem list_zip {Q : Value → Shared → Prop} (hh : A.handled = none) (D : a.ap) (st0 : ZAt a xs ys s.heap.objs.size 0 s.heap) (fresh : IsZip s.heap a.z a.TI a.TO .none) (hn : min xs.size ys.size ≤ sizeLine)
    (hQ : ∀ h' tk acc c as, (∀ b o, ZOff a b → s.heap.get? b = some o → h'.get? b = some o) → h'.get? s.heap.objs.size = some (lsObj acc c) → acc.toList = as.map Value.ref → as.length = min xs.size ys.size → ZGot xs ys s.heap.objs.size h' as →
      Q (.ref s.heap.objs.size) { s with heap := h', toks := tk }) : wpAny (model prog w) A (call (.type "list") [.ref a.z]) Q E s := by
  have hzT : s.TypeIs (.ref a.z) "zip" := ⟨_, fresh, rfl⟩
  obtain ⟨oz, hz, hzc⟩ := id hzT
  obtain ⟨u, v, hto⟩ := id st0.to
  have lz : a.z < s.heap.objs.size := Heap.lt_size hz
  have lTI : a.TI < s.heap.objs.size := Heap.lt_size st0.pr
  obtain ⟨oi, ei, _⟩ := id st0.fst
  obtain ⟨oj, ej, _⟩ := id st0.snd
  have li := Heap.lt_size ei
  have lj := Heap.lt_size ej
  obtain ⟨ol, el, _⟩ := id st0.ls
  obtain ⟨om, em, _⟩ := id st0.ms
  have ll := Heap.lt_size el
  have lm := Heap.lt_size em
  have lTO : a.TO < s.heap.objs.size := Heap.lt_size hto
  have low : ZLow a s.heap.objs.size := ⟨lz, lTO, li, lj⟩
  have off : s.heap.objs.size ∉ [a.z, a.TI, a.TO, a.i, a.j, a.l, a.m] := by
    simp only [List.mem_cons, List.not_mem_nil, or_false, not_or]
    exact ⟨Nat.ne_of_gt lz, Nat.ne_of_gt lTI, Nat.ne_of_gt lTO, Nat.ne_of_gt li, Nat.ne_of_gt lj, Nat.ne_of_gt ll, Nat.ne_of_gt lm⟩
  have key : ∀ (A : Around) (R : Result → Shared → Prop) (h : Heap) (c tk : Nat), A.handled = none → (∀ b o, b ≠ s.heap.objs.size → s.heap.get? b = some o → h.get? b = some o) → h.get? s.heap.objs.size = some (lsObj #[] c) →
      (∀ h' tk acc c as, (∀ b o, ZOff a b → s.heap.get? b = some o → h'.get? b = some o) → h'.get? s.heap.objs.size = some (lsObj acc c) → acc.toList = as.map Value.ref → as.length = min xs.size ys.size → ZGot xs ys s.heap.objs.size h' as → R (.ok (.ret .none)) { s with heap := h', toks := tk }) →
      codeAny (model prog w) A (.builtin "list.extend.loop" ⟨[.ref s.heap.objs.size, .ref a.z, .none], []⟩) R { s with heap := h, toks := tk } := fun A R h c tk hA hk hS hR =>
    zq_loop (h0 := s.heap) hA D off low hn .none (fun h' tk acc c as kp e1 e2 e3 e4 => hR h' tk acc c as (fun b o n e => kp b o (Nat.ne_of_lt (Heap.lt_size e)) n e) e1 e2 e3 e4)
      (min xs.size ys.size) 0 h tk c #[] [] rfl (st0.stay off hk) (fun b o n _ e => hk b o n e) hS rfl rfl ⟨List.Pairwise.nil, (fun p hp => nomatch hp), fun j p e => by simp at e⟩
  refine callType_codes (Q₁ := fun obj s₁ => obj = .ref s.heap.objs.size ∧ s₁ = { s with heap := s.heap.push (lsObj #[] 0) }) PySem.F.called_list (PySem.F.typeCall_list_1 _) PySem.F.entry_list_init (code_list_new _ ⟨rfl, rfl⟩) fun obj s₁ h₁ => ?_
  obtain ⟨rfl, rfl⟩ := h₁
  have hS0 : (s.heap.push (lsObj #[] 0)).get? s.heap.objs.size = some (lsObj #[] 0) := Heap.get?_push_size _ rfl
  refine ⟨⟨_, hS0, rfl⟩, PySem.F.args_list_init_2 _ _, ?_⟩
  show wpAny _ _ (do let old ← Builtin.List.listItems (.ref s.heap.objs.size); Builtin.List.listUpdate (.ref s.heap.objs.size) (fun _ => #[]); letGo old.toList.reverse; Builtin.List.listExtendWith (.ref s.heap.objs.size) (.ref a.z) .none) _ _ _
  refine wpAny_bind ?_
  unfold Builtin.List.listItems
  refine wpAny_bind (wpAny_seqItems hS0 rfl (wpAny_pure ?_))
  show wpAny _ _ (updateSeq s.heap.objs.size (fun _ => #[]) >>= fun _ => letGo (#[] : Array Value).toList.reverse >>= fun _ => Builtin.List.listExtendWith (.ref s.heap.objs.size) (.ref a.z) .none) _ _ _
  refine wpAny_bind (wpAny_updateSeq hS0 rfl ?_)
  have hS1 := Heap.get?_update_self (Obj.mapSeq (fun _ => (#[] : Array Value))) hS0 rfl
  have k1 : ∀ b o, b ≠ s.heap.objs.size → s.heap.get? b = some o → ((s.heap.push (lsObj #[] 0)).update s.heap.objs.size (Obj.mapSeq (fun _ => (#[] : Array Value)))).get? b = some o :=
    fun b o n e => (Heap.get?_update_other _ _ (Ne.symm n)).trans (Heap.get?_push_of_some _ e)
  refine wpAny_bind (wpAny_letGo ?_)
  unfold Builtin.List.listExtendWith
  have hzT1 : Shared.TypeIs { s with heap := (s.heap.push (lsObj #[] 0)).update s.heap.objs.size (Obj.mapSeq (fun _ => (#[] : Array Value))) } (.ref a.z) "zip" := ⟨oz, k1 _ _ (Nat.ne_of_lt lz) hz, hzc⟩
  refine wpAny_bind (wpAny_typeOf (T := "zip") hzT1 ?_)
  have b1 : Builtin.List.listSameRef (.ref s.heap.objs.size) (.ref a.z) = false := by simp [Builtin.List.listSameRef, Nat.ne_of_gt lz]
  have b2 : (Value.type "zip" == Value.type "list") = false := by decide
  have b3 : (Value.type "zip" == Value.type "tuple") = false := by decide
  simp only [b1, b2, b3, Bool.or_false, Bool.false_eq_true, if_false]
  have stn := st0.stay off k1
  have itr : ∀ {A : Around} {E : Value → Shared → Prop} {Q : Value → Shared → Prop}, Q (.ref a.z) { s with heap := (s.heap.push (lsObj #[] 0)).update s.heap.objs.size (Obj.mapSeq (fun _ => (#[] : Array Value))) } →
      wpAny (model prog w) A (pyIter (.ref a.z)) Q E { s with heap := (s.heap.push (lsObj #[] 0)).update s.heap.objs.size (Obj.mapSeq (fun _ => (#[] : Array Value))) } := fun {A E Q} q => wpAny_pyIter_zip (s := { s with heap := _ }) (k1 _ _ (Nat.ne_of_lt lz) fresh) q
  refine wpAny_bind (itr ?_)
  refine wpAny_bind (wpAny_holding (zq_nohint hzT1 ?_))
  refine wpAny_ite_split (fun _ => ?_) (fun q => absurd rfl q)
  refine wpAny_bind (wpAny_rule ?_)
  refine wpAny_bind ?_
  show wpAny _ _ (updateSeq s.heap.objs.size (·.push .none) >>= fun _ => updateSeq s.heap.objs.size (·.pop)) _ _ _
  refine wpAny_bind (wpAny_updateSeq hS1 rfl ?_)
  have hS2 := Heap.get?_update_self (Obj.mapSeq (·.push Value.none)) hS1 rfl
  refine wpAny_updateSeq (hz := by seq_fits) hS2 rfl ?_
  have hS3 := Heap.get?_update_self (Obj.mapSeq (·.pop)) hS2 rfl
  refine wpAny_pure ⟨plainId_quiet PySem.F.plain_extend_loop _, key _ _ _ _ _ hh (fun b o n e => ?_) hS3 fun h' tk acc c as kp e1 e2 e3 e4 => ?_⟩
  · exact (Heap.get?_update_other _ _ (Ne.symm n)).trans ((Heap.get?_update_other _ _ (Ne.symm n)).trans (k1 b o n e))
  · exact ⟨rfl, hQ h' tk acc c as kp e1 e2 e3 e4⟩
end
end MP

set_option Elab.async false
set_option linter.all false
set_option maxRecDepth 100000
set_option maxHeartbeats 4000000
/-! MP4f: min of four numbers. -/
namespace MP
open PySem PySem.Spec PyProof.Rows L2
section
variable {prog : Program} {w : World} {A : Around} {E : Value → Shared → Prop} {s : Shared}
theorem args_min4 (a b c d : Value) : argsOk "min" ⟨[a, b, c, d], []⟩ := by unfold argsOk; kernel_rfl
/-- min(a, b, c, d): one of them, none is less -/
theorem min_four {ps : List (Int × Tok)} {a b c d : Value} (hs : ps.map (fun p => Value.int p.1 p.2) = [a, b, c, d]) {Q : Value → Shared → Prop} (calm : A.handled = none)
    (q : ∀ h' tk m t, m ∈ ps.map (·.1) → (∀ j ∈ ps.map (·.1), m ≤ j) → (∀ e o, s.heap.get? e = some o → h'.get? e = some o) → Q (.int m t) { s with heap := h', toks := tk }) : wpAny (model prog w) A (call (.builtin "min") [a, b, c, d]) Q E s := by
  have nm : (toString "min" ++ toString ".loop" : String) = "min.loop" := by decide
  refine call_function_tree F.kind_min F.plain_min F.entry_min (args_min4 _ _ _ _) ?_
  show wpAny _ A.in1 (Builtin.Builtins.bindParams "min" ["key", "default"] 0 ⟨([] : List Value), []⟩ >>= _) _ _ s
  refine wpAny_bind (wpAny_of_eq (show Builtin.Builtins.bindParams "min" ["key", "default"] 0 ⟨([] : List Value), []⟩ = pure [none, none] from rfl) ?_)
  show wpAny _ A.in1 (newTuple [a, b, c, d] >>= _) _ _ s
  rw [← hs]
  have len : ps.length = 4 := by have := congrArg List.length hs; rwa [List.length_map] at this
  generalize hus : ps.map (fun p => Value.int p.1 p.2) = us
  have ul : us.length = 4 := by rw [← hus, List.length_map]; exact len
  refine wpAny_bind (wpAny_newObj_type ?_ (by show us.toArray.size ≤ sizeLine; rw [List.size_toArray, ul]; decide))
  have at1 : (s.heap.push { cls := .type "tuple", data := .seq us.toArray }).IsTuple s.heap.objs.size us.toArray := ⟨_, Heap.get?_push_size _ rfl, rfl, 0, rfl⟩
  have sz : (s.heap.push { cls := .type "tuple", data := .seq us.toArray }).objs.size = s.heap.objs.size + 1 := Heap.size_push ..
  refine wpAny_bind (wpAny_pyIter_tuple at1 ?_)
  refine wpAny_bind (wpAny_newObj_type ?_)
  rw [nm]
  have val : ∀ (i : Nat) (v : Value), us.toArray[i]? = some v → ∃ t, v = Value.int ((ps.map (·.1)).getD i 0) t := fun i v hv => by
    have hv : us[i]? = some v := by simpa using hv
    rw [← hus, List.getElem?_map] at hv
    cases hp : ps[i]? with
    | none => rw [hp] at hv; cases hv
    | some p =>
      rw [hp] at hv
      refine ⟨p.2, ?_⟩
      rw [List.getD_eq_getElem?_getD, List.getElem?_map, hp]
      exact (Option.some.inj hv).symm
  have W := Walks.tuple (prog := prog) (w := w) (A := A.in1) calm (s.heap.objs.size + 1) s.heap.objs.size (Nat.ne_of_lt (Nat.lt_succ_self _)) us.toArray
  have st : ((s.heap.push { cls := .type "tuple", data := .seq us.toArray }).push { cls := .type "tuple_iterator", data := .fields #[.ref s.heap.objs.size, .int 0 0] }).IsTupleIter (s.heap.objs.size + 1) s.heap.objs.size 0 := by
    have := Heap.get?_push_size (s.heap.push { cls := .type "tuple", data := .seq us.toArray }) (o := { cls := .type "tuple_iterator", data := .fields #[.ref s.heap.objs.size, .int 0 0] }) rfl
    rw [sz] at this
    exact ⟨_, this, rfl, rfl⟩
  have sz2 : ((s.heap.push { cls := .type "tuple", data := .seq us.toArray }).push { cls := .type "tuple_iterator", data := .fields #[.ref s.heap.objs.size, .int 0 0] }).objs.size = s.heap.objs.size + 2 := by rw [Heap.size_push, sz]
  have out : s.heap.objs.size + 2 ∉ [s.heap.objs.size + 1, s.heap.objs.size] := by simp only [List.mem_cons, List.not_mem_nil, or_false, not_or]; exact ⟨Nat.ne_of_gt (Nat.lt_succ_self _), Nat.ne_of_gt (Nat.lt_succ_of_lt (Nat.lt_succ_self _))⟩
  rw [sz] at *
  refine wpAny_pure ⟨plainId_quiet F.plain_min_loop _, ?_⟩
  show codeAny _ A (.builtin "min.loop" ⟨[.ref (s.heap.objs.size + 1), .none, .ref _], []⟩) _ _
  rw [sz2]
  refine codeAny_min_loop_first W _ (CmpOf.ints_lt (fun i => (ps.map (·.1)).getD i 0) val) (s.heap.objs.size + 2) out (by rw [List.size_toArray, ul]; decide) (W.frame _ _ _ ⟨st, at1.push _⟩ fun b _ o e => Heap.get?_push_of_some _ e) (by
    have := Heap.get?_push_size ((s.heap.push { cls := .type "tuple", data := .seq us.toArray }).push { cls := .type "tuple_iterator", data := .fields #[.ref s.heap.objs.size, .int 0 0] }) (o := { cls := .type "list", data := .seq #[] }) rfl
    rw [sz2] at this
    exact this) fun v h' tk pv k => ?_
  obtain ⟨t, rfl⟩ := val _ v pv
  obtain ⟨b1, b2⟩ := argBest_lt (fun i => (ps.map (·.1)).getD i 0) (us.toArray.size - 1)
  have z3 : us.toArray.size - 1 = 3 := by rw [List.size_toArray, ul]
  rw [z3] at b1 b2 ⊢
  have pl : (ps.map (·.1)).length = 4 := by rw [List.length_map]; exact len
  have mem : ∀ i, i ≤ 3 → (ps.map (·.1)).getD i 0 ∈ ps.map (·.1) := fun i hi => by
    rw [List.getD_eq_getElem?_getD, List.getElem?_eq_getElem (by omega)]
    exact List.getElem_mem _
  refine q h' tk _ t (mem _ b1) (fun j hj => ?_) fun e o ho => ?_
  · obtain ⟨i, hi, rfl⟩ := List.mem_iff_getElem.mp hj
    have := b2 i (by omega)
    rw [List.getD_eq_getElem?_getD (i := i), List.getElem?_eq_getElem hi] at this
    exact this
  · have lt := Heap.lt_size ho
    refine k e o ?_ (Nat.ne_of_lt (Nat.lt_succ_of_lt (Nat.lt_succ_of_lt lt))) (Heap.get?_push_of_some _ (Heap.get?_push_of_some _ (Heap.get?_push_of_some _ ho)))
    intro z
    rw [List.mem_singleton.mp z] at lt
    exact absurd (Nat.lt_trans (Nat.lt_succ_self _) lt) (Nat.lt_irrefl _)
def rMin4 : List V → Hp → VK → Prop := fun xs H Q => ∃ i j k l : Int, xs = [.int i, .int j, .int k, .int l] ∧ ∀ m, m ∈ [i, j, k, l] → (∀ y ∈ [i, j, k, l], m ≤ y) → Q (.int m) H
theorem call_min4 {X : Cx} (hc : X.calm = true) : CallR X (.builtin "min") rMin4 := by
  intro pins s σ H xs us Q I r h
  obtain ⟨i, j, k, l, rfl, q⟩ := h
  obtain _ | ⟨⟨t1, rfl⟩, _ | ⟨⟨t2, rfl⟩, _ | ⟨⟨t3, rfl⟩, _ | ⟨⟨t4, rfl⟩, _ | _⟩⟩⟩⟩ := r
  exact min_four (ps := [(i, t1), (j, t2), (k, t3), (l, t4)]) rfl (I.ok.hd hc) fun h' tk m t hm hy k => ⟨.int m, H, I.kept k, ⟨t, rfl⟩, q m hm hy⟩
end
end MP

set_option Elab.async false
set_option linter.all false
set_option maxRecDepth 100000
set_option maxHeartbeats 4000000
/-! MP4g: t[1::-1] of a tuple of two or more. -/
namespace MP
open PySem PySem.Spec PyProof.Rows L2
section
variable {prog : Program} {w : World} {A : Around} {E : Value → Shared → Prop} {s : Shared}
theorem applied_back {sl : Addr} {t t2 : Tok} {n : Nat} {Q : Int × Int × Nat → Shared → Prop} (hs : s.heap.IsSliceOf sl (.int 1 t) .none (.int (-1) t2)) (hn : 2 ≤ n) (h : Q (1, -1, 2) s) :
    wpAny (model prog w) A (Builtin.Slice.sliceApplied (.ref sl) (pure (n : Int))) Q E s := by
  obtain ⟨o, o1, o2, o3⟩ := id hs
  unfold Builtin.Slice.sliceApplied Builtin.Slice.sliceFields
  refine wpAny_bind (wpAny_bind (wpAny_field o1 o3 (x := .int 1 t) rfl (wpAny_bind (wpAny_field o1 o3 (x := .none) rfl (wpAny_bind (wpAny_field o1 o3 (x := .int (-1) t2) rfl (wpAny_pure ?_)))))))
  refine wpAny_bind (HT.slicePart_ (.int (-1) t2) ?_)
  show wpAny _ _ (if ((-1 : Int) == 0) = true then _ else _) _ _ s
  rw [if_neg (by decide)]
  refine wpAny_bind (HT.slicePart_ (.int 1 t) (wpAny_bind (HT.slicePart_ .none (wpAny_bind (wpAny_pure ?_)))))
  have e1 : Builtin.Slice.sliceAdjust (some 1) none (-1) (n : Int) = (1, -1) := by
    unfold Builtin.Slice.sliceAdjust
    have h1 : (-1 : Int) < 0 := by decide
    have h2 : ¬ ((1 : Int) < 0) := by decide
    simp only [h1, h2, if_true, if_false]
    rw [show min (1 : Int) ((n : Int) - 1) = 1 by omega]
  show wpAny _ _ (match Builtin.Slice.sliceAdjust (some 1) none (-1) (n : Int) with | (lo, hi) => pure (lo, (-1 : Int), Builtin.Slice.slicePlaces lo hi (-1))) _ _ s
  rw [e1]
  exact wpAny_pure h
theorem get_back {a sl : Addr} {u v : Value} {r : List Value} {t t2 : Tok} {Q : Value → Shared → Prop} (ha : IsTup s.heap a (u :: v :: r).toArray) (hs : s.heap.IsSliceOf sl (.int 1 t) .none (.int (-1) t2))
    (h : Q (.ref s.heap.objs.size) { s with heap := s.heap.push { cls := .type "tuple", data := .seq #[v, u] } }) : wpAny (model prog w) A (getItem (.ref a) (.ref sl)) Q E s := by
  obtain ⟨o, o1, o2, o3⟩ := id hs
  have ty : s.TypeIs (.ref sl) "slice" := ⟨o, o1, o2⟩
  have sz : sizeOk (.seq #[v, u]) := by show 2 ≤ sizeLine; decide
  unfold getItem
  try with_reducible refine wpAny_holding ?_
  first | refine wpAny_bind (wpAny_pure ?_) | skip
  refine wpAny_bind (wpAny_sequenceKey ha.typeIs (by decide) (wpAny_bind (wpAny_callSpecial?_slot (name := Str.ofString "__getitem__") ha.typeIs PyProof.Rows.slot_tuple_getitem
    (wpAny_call_entry PyProof.Rows.slot_tuple_getitem ha.typeIs PyProof.Rows.entry_tuple_getitem ?_ (PyProof.Rows.args_tuple_getitem _ _)))))
  show wpAny _ _ (Builtin.Tuple.tupleItemsOf (Value.ref a) >>= _) _ _ s
  refine wpAny_bind (PyProof.Rows.tupleItemsOf_ ha (wpAny_bind (wpAny_typeOf ty ?_)))
  rw [if_pos (by decide)]
  refine wpAny_bind (applied_back hs (by rw [List.size_toArray, List.length_cons, List.length_cons]; omega) ?_)
  show wpAny _ _ (if ((1 : Int) == 0 && (-1 : Int) == 1 && 2 == (u :: v :: r).toArray.size) = true then _ else _) _ _ s
  rw [if_neg (by simp)]
  have pick : ((List.range 2).filterMap fun (m : Nat) => (u :: v :: r).toArray[((1 : Int) + (m : Int) * (-1)).toNat]?).toArray = #[v, u] := rfl
  rw [pick]
  first
    | exact wpAny_bind (m := Builtin.Tuple.tupleExact _) (wpAny_newObj_type (wpAny_pure ⟨_, rfl, wpAny_pure h⟩) sz)
    | exact wpAny_bind (m := Builtin.Tuple.tupleExact _) (wpAny_newObj_type (wpAny_bind (wpAny_pure (wpAny_pure ⟨_, rfl, wpAny_pure h⟩))) sz)
    | exact wpAny_bind (wpAny_bind (m := Builtin.Tuple.tupleExact _) (wpAny_newObj_type (wpAny_pure (wpAny_pure ⟨_, rfl, wpAny_pure h⟩)) sz))
    | exact wpAny_bind (wpAny_bind (m := Builtin.Tuple.tupleExact _) (wpAny_newObj_type (wpAny_pure ⟨_, rfl, wpAny_pure h⟩) sz))
end
section
variable {X : Cx}
def tBack (K : PySem.W.Frag) (te tl ts : TE) : TE := fun σ H Q => te σ H fun x H1 => tPart tl σ H1 fun l H2 => tPart ts σ H2 fun o H3 => l = some 1 ∧ o = some (-1) ∧ ∃ a u v r, x = .ref a ∧ SqT K H3 a (u :: v :: r) ∧ ∀ p, H3 p = none → Q (.ref p) (upd H3 p (.tup [v, u]))
theorem pe_back {e lo st : Expr} {te tl ts : TE} {p3 pos : Pos} (he : PE X e te) (hl : PE X lo tl) (hs : PE X st ts) : PE X (.Subscript e (.Slice (some lo) none (some st) p3) pos) (tBack X.K te tl ts) := by
  refine ⟨fun pins s σ H Q I h => ?_⟩
  refine Subscript_ (thn (he.run pins s σ H _ I h) fun v s1 ⟨x, H1, I1, r1, q1⟩ => ?_)
  have hlo : PO X (some lo) (tPart tl) := po_some hl
  have hst : PO X (some st) (tPart ts) := po_some hs
  refine wpAny_Slice (thn (hlo.run pins s1 σ H1 _ I1 q1) fun vl s2 ⟨l, H2, I2, pl, q2⟩ => ?_)
  refine thn (po_none.run pins s2 σ H2 (fun o H3 => o = none ∧ H3 = H2) I2 ⟨rfl, rfl⟩) fun vu s3 ⟨u, H3, I3, pu, eu, e3⟩ => ?_
  subst eu e3
  refine thn (hst.run pins s3 σ H3 _ I3 q2) fun vs s4 ⟨o, H4, I4, ps, q3⟩ => ?_
  obtain ⟨el, eo, a, u, v', r, ex, hx, q⟩ := q3
  subst el eo ex
  cases r1
  obtain ⟨t1, rfl⟩ : ∃ t, vl = Value.int 1 t := by cases pl; exact ⟨_, rfl⟩
  obtain ⟨t2, rfl⟩ : ∃ t, vs = Value.int (-1) t := by cases ps; exact ⟨_, rfl⟩
  obtain rfl : vu = Value.none := by cases pu; rfl
  have I5 : Inv X pins σ H4 { s4 with heap := s4.heap.push { cls := .type "slice", data := .fields #[.int 1 t1, .none, .int (-1) t2] } } := I4.kept (t' := s4.toks) fun b ob z => Heap.get?_push_of_some _ z
  obtain ⟨its, rv, ht, hz⟩ := I5.tuple hx
  obtain _ | ⟨ru, _ | ⟨rv', rr⟩⟩ := rv
  show wpAny (model X.prog X.w) X.A (subscriptTail e (.Slice (some lo) none (some st) p3) (.ref a) (.ref s4.heap.objs.size)) (EP X pins σ Q) X.xe { s4 with heap := s4.heap.push { cls := .type "slice", data := .fields #[.int 1 t1, .none, .int (-1) t2] } }
  refine tail_any (ops := [.ref a, .ref s4.heap.objs.size]) ht.typeIs (PyProof.Rows.slot_tuple_getitem.lookup) ?_ (by with_unfolding_all rfl)
  refine get_back ht (Heap.IsSliceOf.new ..) ?_
  exact ⟨.ref _, _, I5.laid (t' := s4.toks) (o := .tup [v', u]) (fun b ob z => Heap.get?_push_of_some _ z) (Nat.le_refl _) ⟨by show 2 ≤ sizeLine; decide, _, .cons rv' (.cons ru .nil), IsTup.new _ _⟩, rfl, q _ (I5.hok.fresh (Nat.le_refl _))⟩
end
end MP

set_option Elab.async false
set_option linter.all false
set_option maxRecDepth 100000
set_option maxHeartbeats 4000000
/-! MP5: built-ins and methods by value. -/
namespace MP
open PySem PySem.Spec PyProof.Rows L2

theorem intsW_v {K : KH} {F : Hp} : ∀ {ws : List W} {ns : List Int} {vs : List V}, intsW ws = some ns → RepL K F ws vs → vs = ns.map V.int
  | [], _, _, h, .nil => by cases h; rfl
  | w :: ws, ns, _, h, .cons a b => by
    cases w with
    | int i =>
      cases a
      unfold intsW at h
      cases e : intsW ws with
      | none => rw [e] at h; cases h
      | some ms =>
        rw [e] at h
        cases h
        rw [intsW_v e b]
        rfl
    | _ => cases h
theorem blsW_v {K : KH} {F : Hp} : ∀ {ws : List W} {ns : List Bool} {vs : List V}, blsW ws = some ns → RepL K F ws vs → vs = ns.map V.bl
  | [], _, _, h, .nil => by cases h; rfl
  | w :: ws, ns, _, h, .cons a b => by
    cases w with
    | bl i =>
      cases a
      unfold blsW at h
      cases e : blsW ws with
      | none => rw [e] at h; cases h
      | some ms =>
        rw [e] at h
        cases h
        rw [blsW_v e b]
        rfl
    | _ => cases h
def rMaxD (K : PySem.W.Frag) : List V → Hp → VK → Prop := fun vs H Q => ∃ (a : Addr) (xs : List V) (d : PyData) (ds : List PyData), vs = [.ref a] ∧ SqL K H a xs ∧ DpAll K H xs (d :: ds) ∧ PySem.W.AlikeAll (d :: ds) ∧ SeqAt.shaped (.list (d :: ds)) = true ∧
  ∀ (i : Nat) x, xs[i]? = some x → (d :: ds)[i]? = some (PySem.W.maxD d ds) → Q x H
/-- is it a built-in function or a class -/
def Blt.val : Blt → Value
  | .int => .type "int" | .str => .type "str" | .list => .type "list" | .tuple => .type "tuple" | .dictK => .type "dict" | .dictT => .type "dict" | .listK => .type "list"
  | .len => .builtin "len" | .abs => .builtin "abs" | .min2 => .builtin "min" | .min4 => .builtin "min" | .max2 => .builtin "max" | .minL => .builtin "min" | .maxL => .builtin "max" | .maxD => .builtin "max"
  | .sum => .builtin "sum" | .all => .builtin "all" | .any => .builtin "any" | .sortD => .builtin "sorted"
def rSortD (K : PySem.W.Frag) : List V → Hp → VK → Prop := fun vs H Q => ∃ (a : Addr) (xs : List V) (ds : List PyData), vs = [.ref a] ∧ SqL K H a xs ∧ DpAll K H xs ds ∧ PySem.W.AllAlike ds ∧ PySem.W.Sortable ds ∧ SeqAt.shaped (.list ds) = true ∧
  ∀ p, H p = none → Q (.ref p) (upd H p (.lst (((xs.zip ds).mergeSort (PySem.W.dataLe false fun q : V × PyData => q.2)).map (·.1))))
def rTupleX (K : PySem.W.Frag) : List V → Hp → VK → Prop := fun xs H Q => ∃ p ys, xs = [.ref p] ∧ ((SqL K H p ys ∧ ∀ l, H l = none → Q (.ref l) (upd H l (.tup ys))) ∨ (SqT K H p ys ∧ Q (.ref p) H))
abbrev PrsK (H : Hp) : List Addr → List (Key × V) → Prop := Paired fun p kv => H p = some (.tup [kV kv.1, kv.2])
def rDictK (K : PySem.W.Frag) : List V → Hp → VK → Prop := fun xs H Q => ∃ (a : Addr) (ps : List Addr) (kvs : List (Key × V)), xs = [.ref a] ∧ SqL K H a (ps.map V.ref) ∧ PrsK H ps kvs ∧ ∀ p, H p = none → Q (.ref p) (upd H p (.dK (mergeK [] kvs)))
theorem call_dictK {X : Cx} (hc : X.calm = true) : CallR X (.type "dict") (rDictK X.K) := fun pins s σ H xs us Q I r ⟨a, ps, kvs, h1, h2, h3, q⟩ =>
  call_dictP hc pins s σ H xs us Q I r ⟨a, ps, kvs, h1, h2, Paired.mapP h3 fun _ _ z => .of z, q⟩
def rBlt (K : PySem.W.Frag) : Blt → List V → Hp → VK → Prop
  | .len => fun xs H Q => (∃ x n, xs = [x] ∧ LenV K x H n ∧ Q (.int n) H) ∨ (∃ a kvs, xs = [.ref a] ∧ Rd H a (.dK kvs) ∧ Q (.int (kvs.length : Nat)) H) ∨ ∃ a kvs, xs = [.ref a] ∧ Rd H a (.dT kvs) ∧ Q (.int (kvs.length : Nat)) H
  | .abs => fun xs H Q => ∃ i, xs = [.int i] ∧ Q (.int (if i < 0 then -i else i)) H
  | .min2 => fun xs H Q => ∃ i j, xs = [.int i, .int j] ∧ Q (.int (if j < i then j else i)) H
  | .min4 => rMin4
  | .max2 => fun xs H Q => ∃ i j, xs = [.int i, .int j] ∧ Q (.int (if j > i then j else i)) H
  | .minL => rMin K
  | .maxL => rMax K
  | .maxD => rMaxD K
  | .sum => rSum K
  | .all => rAll K
  | .any => rAny K
  | .int => fun xs H Q => (∃ i, xs = [.int i] ∧ Q (.int i) H) ∨ ∃ k, xs = [.bl k] ∧ Q (.int (if k then 1 else 0)) H
  | .str => fun xs H Q => ∃ i, xs = [.int i] ∧ i.natAbs.log2 < 1920 ∧ Q (.str (toString i)) H
  | .list => fun xs H Q => ∃ p ys, xs = [.ref p] ∧ (SqL K H p ys ∨ SqT K H p ys) ∧ ∀ l, H l = none → Q (.ref l) (upd H l (.lst ys))
  | .tuple => rTupleX K
  | .sortD => rSortD K
  | .dictK => rDictK K
  | .dictT => rDictT K
  | .listK => rListD
theorem call_lenK {X : Cx} : CallR X (.builtin "len") (fun xs H Q => ∃ a kvs, xs = [.ref a] ∧ Rd H a (.dK kvs) ∧ Q (.int (kvs.length : Nat)) H) := by
  intro pins s σ H xs us Q I r h
  obtain ⟨a, kvs, rfl, e, q⟩ := h
  obtain ⟨u, rfl, ru⟩ := vals1 r
  cases ru
  exact d_len I e fun t s' I' => ⟨.int _, H, I', ⟨_, rfl⟩, q⟩
theorem call_lenT {X : Cx} : CallR X (.builtin "len") (fun xs H Q => ∃ a kvs, xs = [.ref a] ∧ Rd H a (.dT kvs) ∧ Q (.int (kvs.length : Nat)) H) := by
  intro pins s σ H xs us Q I r h
  obtain ⟨a, kvs, rfl, e, q⟩ := h
  obtain ⟨u, rfl, ru⟩ := vals1 r
  cases ru
  obtain ⟨z, hd, xs, kt, dd⟩ := dt_rd I.hok e
  have hl : xs.length = kvs.length := (Paired.length kt).symm
  have hs : (sizeLine : Nat) < 2 ^ 63 := line63
  refine PySem.call_len_dictH hd dd (by omega) ?_
  rw [hl]
  exact ⟨.int _, H, I.tok _, ⟨_, rfl⟩, q⟩
theorem getElem_getD {xs : List PyData} {i : Nat} (h : i < xs.length) : xs[i]? = some (xs.getD i .none) := by
  rw [List.getD_eq_getElem?_getD, List.getElem?_eq_getElem h]; rfl
theorem can_mem : ∀ {ds : List PyData}, PyData.canLayAll0 ds = true → ∀ d ∈ ds, d.canLay0 = true
  | e :: ds, h, d, hd => by
    have h' : (e.canLay0 && PyData.canLayAll0 ds) = true := h
    rw [Bool.and_eq_true] at h'
    rcases List.mem_cons.mp hd with rfl | hd
    · exact h'.1
    · exact can_mem h'.2 d hd
theorem call_maxD {X : Cx} (hc : X.calm = true) (hu : X.A.units + 66 < cLine) : CallR X (.builtin "max") (rMaxD X.K) := by
  intro pins s σ H vs us Q I r h
  obtain ⟨a, xs, d, ds, rfl, hs, hd, al, sh, q⟩ := h
  obtain ⟨its, rv, hl, hz⟩ := I.list hs
  rw [Vals.ref1 r]
  obtain ⟨as, ra⟩ := Dp.readsAll I (d :: ds) xs its hd rv
  have dep : (PyData.list (d :: ds)).depth ≤ 64 := SeqAt.depth_of_shaped sh
  have can : PyData.canLayAll0 (d :: ds) = true := SeqAt.canLay_of_shaped sh
  have dep2 : PyData.depthAll (d :: ds) + 1 ≤ 64 := dep
  refine PySem.W.max_list_data (vs := its.toArray) (as := as) (I.ok.hd hc) hl.isList (by simpa using ra) al (by omega) fun i v h' tk bs hv rd hk => ?_
  have hv' : its[i]? = some v := by simpa using hv
  obtain ⟨bs2, r2, hi, hm, _⟩ := PySem.W.readsAll_at ra i v hv'
  have e := (PySem.Reads.unique (PySem.W.reads_keeps hk r2) _ _ rd).1
  have hx : i < xs.length := by
    have e1 := rv.length
    have := (List.getElem?_eq_some_iff.mp hv').1
    omega
  obtain ⟨u, hu2, ru⟩ := Vals.get rv (List.getElem?_eq_getElem hx)
  rw [hv'] at hu2
  cases hu2
  exact ⟨xs[i], H, I.kept (t' := tk) fun b o e => hk b o e, ru, q i _ (List.getElem?_eq_getElem hx) (by rw [getElem_getD hi, e])⟩
theorem dep_mem : ∀ {ds : List PyData} {d : PyData}, d ∈ ds → d.depth ≤ PyData.depthAll ds
  | e :: ds, d, h => by
    show _ ≤ max e.depth (PyData.depthAll ds)
    rcases List.mem_cons.mp h with rfl | h
    · omega
    · have := dep_mem h; omega
theorem dpAll_len {K : PySem.W.Frag} {H : Hp} : ∀ {xs : List V} {ds : List PyData}, DpAll K H xs ds → xs.length = ds.length
  | _, _, .nil => rfl
  | _, _, .cons _ r => by rw [List.length_cons, List.length_cons, dpAll_len r]
theorem each_zip {X : Cx} {h : Heap} : ∀ {xs : List V} {its : List Value} {ds : List PyData} {as : List Addr}, Vals xs its → PySem.ReadsAll h its ds as → PySem.W.EachIs (fun u (q : V × PyData) => RelV q.1 u) its (xs.zip ds) ∧ PySem.W.EachIs (fun u (q : V × PyData) => ∃ as, PySem.Reads h u q.2 as) its (xs.zip ds)
  | _, _, _, _, .nil, .nil => ⟨.nil, .nil⟩
  | _, _, _, _, .cons a r, .cons b t => by
    obtain ⟨h1, h2⟩ := each_zip (X := X) r t
    exact ⟨.cons a h1, .cons ⟨_, b⟩ h2⟩
theorem each_vals : ∀ {out : List Value} {qs : List (V × PyData)}, PySem.W.EachIs (fun u (q : V × PyData) => RelV q.1 u) out qs → Vals (qs.map (·.1)) out
  | _, _, .nil => .nil
  | _, _, .cons a r => .cons a (each_vals r)
theorem call_sortD {X : Cx} (hc : X.calm = true) (hu : X.A.units + 66 < cLine) : CallR X (.builtin "sorted") (rSortD X.K) := by
  intro pins s σ H vs us Q I r h
  obtain ⟨a, xs, ds, rfl, hs, hd, al, so, sh, q⟩ := h
  obtain ⟨its, rv, hl, hz⟩ := I.list hs
  rw [Vals.ref1 r]
  obtain ⟨as, ra⟩ := Dp.readsAll I ds xs its hd rv
  have dep : (PyData.list ds).depth ≤ 64 := SeqAt.depth_of_shaped sh
  have dep2 : PyData.depthAll ds + 1 ≤ 64 := dep
  have hlen := dpAll_len hd
  obtain ⟨e1, e2⟩ := each_zip (X := X) rv ra
  have hm : (xs.zip ds).map (fun q : V × PyData => q.2) = ds := List.map_snd_zip (by omega)
  have hzl : (xs.zip ds).length = xs.length := by rw [List.length_zip]; omega
  refine PySem.W.sorted_data (bs := xs.zip ds) (enc := fun q : V × PyData => q.2) (vs := its) hl.isList e1 e2 (by rw [hm]; exact al) (by rw [hm]; exact so) (by rw [hzl]; exact hz) (fun b hb => ?_) fun out ho eo => ?_
  · have : b.2 ∈ ds := by rw [← hm]; exact List.mem_map.mpr ⟨b, hb, rfl⟩
    have := dep_mem this
    omega
  · obtain ⟨ep, he'⟩ := PyProof.Rows.sortedAll_at s.heap its out.toArray
    have hv := each_vals eo
    refine ⟨.ref _, upd H (s.heap.objs.size + 1) (.lst _), I.laid (t' := s.toks) (fun _ _ => PyProof.Rows.sortedAll_old) (Nat.le_succ _) ⟨?_, out, ep, hv, he'⟩, rfl, q _ (I.hok.fresh (Nat.le_succ _))⟩
    rw [hv.length, ho, hzl]; exact hz
theorem call_blt {X : Cx} (hc : X.calm = true) (hu : X.A.units + 66 < cLine) : ∀ b : Blt, CallR X b.val (rBlt X.K b)
  | .len => call_len.or (call_lenK.or call_lenT)
  | .abs => call_abs
  | .min2 => call_min2 hc
  | .min4 => call_min4 hc
  | .max2 => call_max2 hc
  | .minL => cr_min hc
  | .maxL => cr_max hc
  | .maxD => call_maxD hc hu
  | .sum => cr_sum hc
  | .all => cr_all hc
  | .any => cr_any hc
  | .int => call_int1
  | .str => call_str_int
  | .list => call_list_of
  | .tuple => call_tuple_of
  | .sortD => call_sortD hc hu
  | .dictK => call_dictK hc
  | .dictT => call_dictT hc hu
  | .listK => call_list_dK hc
theorem repL_zip {K : KH} {F : Hp} : ∀ {ws : List W} {vs : List V}, RepL K F ws vs → ∀ ds : List PyData, ∃ zs : List (W × V × PyData), ws.zip ds = zs.map (fun z => (z.1, z.2.2)) ∧ vs.zip ds = zs.map (fun z => (z.2.1, z.2.2)) ∧ ∀ z ∈ zs, Rep K F z.1 z.2.1
  | _, _, .nil, ds => ⟨[], by simp, by simp, fun z h => by cases h⟩
  | _, _, .cons _ _, [] => ⟨[], rfl, rfl, fun z h => by cases h⟩
  | w :: ws, v :: vs, .cons a r, d :: ds => by
    obtain ⟨zs, h1, h2, h3⟩ := repL_zip r ds
    refine ⟨(w, v, d) :: zs, by rw [List.zip_cons_cons, h1]; rfl, by rw [List.zip_cons_cons, h2]; rfl, fun z h => ?_⟩
    rcases List.mem_cons.mp h with rfl | h
    · exact a
    · exact h3 z h
theorem repL_of {K : KH} {F : Hp} : ∀ {zs : List (W × V × PyData)}, (∀ z ∈ zs, Rep K F z.1 z.2.1) → RepL K F (zs.map (·.1)) (zs.map (·.2.1))
  | [], _ => .nil
  | z :: zs, h => .cons (h z (by simp)) (repL_of fun y hy => h y (by simp [hy]))
theorem sort_rep {K : KH} {F : Hp} {ws : List W} {vs : List V} (r : RepL K F ws vs) (ds : List PyData) : RepL K F (sortW ws ds) (((vs.zip ds).mergeSort (PySem.W.dataLe false fun q : V × PyData => q.2)).map (·.1)) := by
  obtain ⟨zs, h1, h2, h3⟩ := repL_zip r ds
  unfold sortW
  rw [h1, h2]
  have e1 : (zs.map (fun z => (z.1, z.2.2))).mergeSort dLe = (zs.mergeSort (PySem.W.dataLe false fun z : W × V × PyData => z.2.2)).map (fun z => (z.1, z.2.2)) := (List.map_mergeSort (f := fun z : W × V × PyData => (z.1, z.2.2)) fun _ _ _ _ => rfl).symm
  have e2 : (zs.map (fun z => (z.2.1, z.2.2))).mergeSort (PySem.W.dataLe false fun q : V × PyData => q.2) = (zs.mergeSort (PySem.W.dataLe false fun z : W × V × PyData => z.2.2)).map (fun z => (z.2.1, z.2.2)) := (List.map_mergeSort (f := fun z : W × V × PyData => (z.2.1, z.2.2)) fun _ _ _ _ => rfl).symm
  rw [e1, e2, List.map_map, List.map_map]
  exact repL_of fun z hz => h3 z ((List.mergeSort_perm _ _).mem_iff.mp hz)
theorem prK_v {K : KH} {S : Sto} {H : Hp} : ∀ {ws : List W} {kvs : List (Key × W)} {vs : List V}, prK ws = some kvs → RepL K (fz S H) ws vs → ∃ ps kv', vs = ps.map V.ref ∧ PrsK H ps kv' ∧ KVR K (fz S H) kvs kv'
  | [], _, _, h, .nil => by cases h; exact ⟨[], [], rfl, .nil, .nil⟩
  | w :: ws, kvs, _, h, .cons a b => by
    unfold prK at h
    split at h
    · rename_i e; cases e
    · rename_i k v us e
      cases e
      cases a with
      | tup nk ht rr =>
        obtain _ | ⟨rk, _ | ⟨rv, _ | _⟩⟩ := rr
        cases ek : keyW k with
        | none => rw [ek] at h; cases h
        | some k' =>
          rw [ek, Option.bind_some] at h
          cases er : prK ws with
          | none => rw [er] at h; cases h
          | some kvs' =>
            rw [er] at h
            cases h
            obtain ⟨ps, kv', e1, e2, e3⟩ := prK_v er b
            have hk := keyW_v ek rk
            subst hk
            exact ⟨_ :: ps, (k', _) :: kv', by rw [e1]; rfl, .cons (fz_sub _ _ ht) e2, .cons ⟨rfl, rv⟩ e3⟩
    · cases h
theorem prT_v {K : KH} {S : Sto} {H : Hp} : ∀ {ws : List W} {kvs : List (List Key × W)} {vs : List V}, prT ws = some kvs → RepL K (fz S H) ws vs → ∃ ps kv', vs = ps.map V.ref ∧ PrsT H ps kv' ∧ KVR K (fz S H) kvs kv'
  | [], _, _, h, .nil => by cases h; exact ⟨[], [], rfl, .nil, .nil⟩
  | w :: ws, kvs, _, h, .cons a b => by
    unfold prT at h
    split at h
    · rename_i e; cases e
    · rename_i ks v us e
      cases e
      cases a with
      | tup nk ht rr =>
        obtain _ | ⟨rk, _ | ⟨rv, _ | _⟩⟩ := rr
        cases rk with
        | tup nk2 ht2 rr2 =>
          cases ek : keysW ks with
          | none => rw [ek] at h; cases h
          | some k' =>
            rw [ek, Option.bind_some] at h
            cases er : prT ws with
            | none => rw [er] at h; cases h
            | some kvs' =>
              rw [er] at h
              cases h
              obtain ⟨ps, kv', e1, e2, e3⟩ := prT_v er b
              have hk := keysW_v ek rr2
              subst hk
              exact ⟨_ :: ps, (k', _) :: kv', by rw [e1]; rfl, .cons ⟨_, fz_sub _ _ ht, fz_sub _ _ ht2⟩ e2, .cons ⟨rfl, rv⟩ e3⟩
    · cases h
theorem kvr_puts {κ : Type} [DecidableEq κ] {K : KH} {F : Hp} : ∀ {more : List (κ × W)} {more' : List (κ × V)}, KVR K F more more' → ∀ {acc : List (κ × W)} {acc' : List (κ × V)}, KVR K F acc acc' → KVR K F (putsW acc more) (putsV acc' more') := by
  intro more more' r
  induction r with
  | nil => intro acc acc' q; exact q
  | cons h t ih =>
    intro acc acc' q
    obtain ⟨h1, h2⟩ := h
    rename_i p p' _ _
    have e2 : putK acc' p.1 p'.2 = putK acc' p'.1 p'.2 := by rw [h1]
    have e' : KVR K F (setK acc p.1 p.2) (putK acc' p.1 p'.2) := kvr_put q h2
    rw [e2] at e'
    exact ih e'
theorem kvr_keys {K : KH} {F : Hp} : ∀ {kvs : List (Key × W)} {kv' : List (Key × V)}, KVR K F kvs kv' → RepL K F (kvs.map fun kv => wKey kv.1) (kv'.map fun kv => kV kv.1)
  | _, _, .nil => .nil
  | _, _, .cons (a := p) (b := q) h t => by
    refine .cons ?_ (kvr_keys t)
    have e : ∀ k : Key, Rep K F (wKey k) (kV k) := fun k => by
      cases k with
      | inl i => exact .int i
      | inr x => exact .str x
    have e2 := e p.1
    show Rep K F (wKey p.1) (kV q.1)
    rw [← h.1]
    exact e2
theorem Kv.newCell {C : Ctx} {ρ : Env} {σ : L2.St} {S : Sto} {H : Hp} {Q : WK} {Q' : VK} {ob : Ob} {o : HO} (k : Kv C ρ σ S H Q Q') (s : Sim C.K ρ σ S H) (r : ∀ p, ObR C.K (fz S H) H p ob o) (q : ∀ p, S p = none → Q (.ref p) (sup S p ob)) :
    ∀ p, H p = none → Q' (.ref p) (upd H p o) := fun p hp => by
  have e := same_newc (ob := ob) (o := o) s.sto hp
  exact k _ _ _ _ (s.to e (s.sto.newc hp (r p))) e (.ref p) (q p (s.sto.free hp))
theorem blts {C : Ctx} {live : Bool} (b : Blt) {ws : List W} {vs : List V} {ρ : Env} {σ : L2.St} {S : Sto} {H : Hp} {Q : WK} {Q' : VK} (s : Sim C.K ρ σ S H) (r : RepL C.K (fz S H) ws vs)
    (g : bltW live b ws S Q) (k : Kv C ρ σ S H Q Q') : rBlt C.K.K b vs H Q' := by
  unfold bltW at g
  split at g
  · obtain _ | ⟨r1, _ | _⟩ := r
    cases r1
    exact .inl ⟨_, _, rfl, ⟨g.1, rfl⟩, k.give s (.int _) g.2⟩
  · obtain _ | ⟨r1, _ | _⟩ := r
    rcases g with ⟨us, hu, q⟩ | ⟨a, kvs, rfl, hk, q⟩ | ⟨a, kvs, rfl, hk, q⟩
    · obtain ⟨a, zs, rfl, ha, ra⟩ := rdQ_sq s.sto r1 hu
      refine .inl ⟨_, us.length, rfl, ?_, k.give s (.int _) q⟩
      rcases ha with ha | ha
      · exact .inl ⟨zs, ha, ra.length⟩
      · exact .inr ⟨zs, ha, ra.length⟩
    · cases r1
      obtain ⟨vs, h1, h2⟩ := cell_obK s.sto hk
      exact .inr (.inl ⟨a, vs, rfl, h1, by rw [← kvr_len h2]; exact k.give s (.int _) q⟩)
    · cases r1
      obtain ⟨vs, h1, h2⟩ := cell_obT s.sto hk
      exact .inr (.inr ⟨a, vs, rfl, h1, by rw [← kvr_len h2]; exact k.give s (.int _) q⟩)
  · obtain _ | ⟨r1, _ | _⟩ := r
    cases r1
    exact ⟨_, rfl, k.give s (.int _) g⟩
  · obtain _ | ⟨r1, _ | ⟨r2, _ | _⟩⟩ := r
    cases r1; cases r2
    exact ⟨_, _, rfl, k.give s (.int _) g⟩
  · obtain _ | ⟨r1, _ | ⟨r2, _ | ⟨r3, _ | ⟨r4, _ | _⟩⟩⟩⟩ := r
    cases r1; cases r2; cases r3; cases r4
    exact ⟨_, _, _, _, rfl, fun m hm hy => k.give s (.int _) (g m hm hy)⟩
  · obtain _ | ⟨r1, _ | ⟨r2, _ | _⟩⟩ := r
    cases r1; cases r2
    exact ⟨_, _, rfl, k.give s (.int _) g⟩
  · obtain _ | ⟨r1, _ | _⟩ := r
    obtain ⟨us, ns, hu, hn, h0, q⟩ := g
    obtain ⟨a, zs, rfl, ha, ra⟩ := rdL_sq s.sto r1 hu
    obtain rfl := intsW_v hn ra
    exact ⟨a, ns, rfl, ha.sq, h0, fun m hm hl => k.give s (.int _) (q m hm hl)⟩
  · obtain _ | ⟨r1, _ | _⟩ := r
    obtain ⟨us, ns, hu, hn, h0, q⟩ := g
    obtain ⟨a, zs, rfl, ha, ra⟩ := rdL_sq s.sto r1 hu
    obtain rfl := intsW_v hn ra
    exact ⟨a, ns, rfl, ha.sq, h0, fun m hm hl => k.give s (.int _) (q m hm hl)⟩
  · obtain _ | ⟨r1, _ | _⟩ := r
    obtain ⟨us, d, ds, hu, hv, al, sh, q⟩ := g
    obtain ⟨a, zs, rfl, ha, ra⟩ := rdL_sq s.sto r1 hu
    refine ⟨a, zs, d, ds, rfl, ha.sq, hv.dp s.sto ra, al, sh, fun i x hx hd => ?_⟩
    obtain ⟨w, hw, rw'⟩ := ra.get' hx
    exact k.give s rw' (q i w hw hd)
  · obtain _ | ⟨r1, _ | _⟩ := r
    obtain ⟨us, ns, hu, hn, q⟩ := g
    obtain ⟨a, zs, rfl, ha, ra⟩ := rdL_sq s.sto r1 hu
    obtain rfl := intsW_v hn ra
    exact ⟨a, ns, rfl, ha.sq, k.give s (.int _) q⟩
  · obtain _ | ⟨r1, _ | _⟩ := r
    obtain ⟨us, ns, hu, hn, q⟩ := g
    obtain ⟨a, zs, rfl, ha, ra⟩ := rdL_sq s.sto r1 hu
    obtain rfl := blsW_v hn ra
    exact ⟨a, ns, rfl, ha.sq, k.give s (.bl _) q⟩
  · obtain _ | ⟨r1, _ | _⟩ := r
    obtain ⟨us, ns, hu, hn, q⟩ := g
    obtain ⟨a, zs, rfl, ha, ra⟩ := rdL_sq s.sto r1 hu
    obtain rfl := blsW_v hn ra
    exact ⟨a, ns, rfl, ha.sq, k.give s (.bl _) q⟩
  · obtain _ | ⟨r1, _ | _⟩ := r
    cases r1
    exact .inl ⟨_, rfl, k.give s (.int _) g⟩
  · obtain _ | ⟨r1, _ | _⟩ := r
    cases r1
    exact .inr ⟨_, rfl, k.give s (.int _) g⟩
  · obtain _ | ⟨r1, _ | _⟩ := r
    cases r1
    exact ⟨_, rfl, g.1, k.give s (.str _) g.2⟩
  · obtain _ | ⟨r1, _ | _⟩ := r
    obtain ⟨us, hu, q⟩ := g
    obtain ⟨a, zs, rfl, ha, ra⟩ := rdQ_sq s.sto r1 hu
    exact ⟨a, zs, rfl, ha, k.newLst s ra q⟩
  · obtain _ | ⟨r1, _ | _⟩ := r
    obtain ⟨us, hu, q⟩ := g
    rename_i x v
    by_cases hx : x = .tup us
    · subst hx
      obtain ⟨a, zs, rfl, ha, ra⟩ := tup_sq r1
      exact ⟨a, zs, rfl, .inr ⟨.of ha, k.give s r1 q⟩⟩
    · have hl : rdL S x = some us := by
        cases x with
        | tup ws => exact absurd (congrArg W.tup (Option.some.inj hu)) hx
        | _ => exact hu
      obtain ⟨a, zs, rfl, ha, ra⟩ := rdL_sq s.sto r1 hl
      exact ⟨a, zs, rfl, .inl ⟨ha.sq, k.newTup s ra q⟩⟩
  · obtain _ | ⟨r1, _ | _⟩ := r
    obtain ⟨us, ds, hu, hv, al, so, sh, q⟩ := g
    obtain ⟨a, zs, rfl, ha, ra⟩ := rdL_sq s.sto r1 hu
    exact ⟨a, zs, ds, rfl, ha.sq, hv.dp s.sto ra, al, so, sh, k.newLst s (sort_rep ra ds) q⟩
  · obtain _ | ⟨r1, _ | _⟩ := r
    obtain ⟨us, kvs, hu, hp, q⟩ := g
    obtain ⟨a, zs, rfl, ha, ra⟩ := rdL_sq s.sto r1 hu
    obtain ⟨ps, kv', rfl, e2, e3⟩ := prK_v hp ra
    exact ⟨a, ps, kv', rfl, ha.sq, e2, k.newCell s (ob := .dk (putsW [] kvs)) (fun _ => by exact ⟨_, rfl, kvr_puts e3 .nil⟩) q⟩
  · obtain _ | ⟨r1, _ | _⟩ := r
    obtain ⟨us, kvs, hu, hp, q⟩ := g
    obtain ⟨a, zs, rfl, ha, ra⟩ := rdL_sq s.sto r1 hu
    obtain ⟨ps, kv', rfl, e2, e3⟩ := prT_v hp ra
    exact ⟨a, ps, kv', rfl, ha.sq, e2, k.newCell s (ob := .dt (putsW [] kvs)) (fun _ => by exact ⟨_, rfl, kvr_puts e3 .nil⟩) q⟩
  · obtain _ | ⟨r1, _ | _⟩ := r
    obtain ⟨a, kvs, rfl, hk, q⟩ := g
    cases r1
    obtain ⟨u, hu, vs, rfl, rv⟩ := s.sto.at' _ _ hk
    exact ⟨a, vs, rfl, hu, k.newLst s (kvr_keys rv) q⟩
  · exact g.elim

/-! ### methods -/
theorem strsW_v {K : KH} {F : Hp} : ∀ {ws : List W} {ns : List Str} {vs : List V}, strsW ws = some ns → RepL K F ws vs → vs = ns.map V.str
  | [], _, _, h, .nil => by cases h; rfl
  | w :: ws, ns, _, h, .cons a b => by
    cases w with
    | str i =>
      cases a
      unfold strsW at h
      cases e : strsW ws with
      | none => rw [e] at h; cases h
      | some ms =>
        rw [e] at h
        cases h
        rw [strsW_v e b]
        rfl
    | _ => cases h
def rExtendR (K : PySem.W.Frag) : V → List V → Hp → VK → Prop := fun x vs H Q => ∃ l b xs zs, x = .ref l ∧ vs = [.ref b] ∧ H l = some (.lst xs) ∧ SqR K H b zs ∧ xs.length + zs.length ≤ sizeLine ∧ Q .non (upd H l (.lst (xs ++ zs)))
theorem mt_extendR {X : Cx} : MtM X "list.extend" (rExtendR X.K) := by
  intro pins s σ H x vs v us Q I rx rv h
  obtain ⟨l, b, xs, zs, rfl, rfl, hH, hB, hz, q⟩ := h
  cases rx
  obtain ⟨u, rfl, ru⟩ := rv.one
  cases ru
  obtain ⟨z, its, n, r, hl, e⟩ := I.lstM hH
  obtain ⟨z2, its2, n2, r2, hl2, e2⟩ := lstR I hB
  have hsz : its.toArray.size + its2.toArray.size ≤ sizeLine := by rw [List.size_toArray, List.size_toArray]; omega
  have hlong : ¬ (!its.toArray.isEmpty && Builtin.List.listTooLong (its.toArray.size + its2.toArray.size)) = true := by
    rw [notLongL hsz, Bool.and_false]
    exact Bool.false_ne_true
  refine call_meets F.slot_list_extend ⟨_, e, rfl⟩ F.entry_list_extend (F.args_list_extend_2 _ _)
    (AutoSeq1.list_extend_list_list_0 l its.toArray n b its2.toArray n2 hlong (by rw [List.size_toArray]; omega) (by omega)) ⟨e, e2, ?_⟩
  refine ⟨.non, _, I.lset (its' := its ++ its2) hH e (by simp) (r.append r2) ?_, rfl, q⟩
  rw [List.length_append]
  omega
def Mth.nm : Mth → Str
  | .append => "append" | .pop => "pop" | .popAt => "pop" | .extend => "extend" | .clear => "clear" | .join => "join" | .index => "index"
def Mth.id : Mth → String
  | .append => "list.append" | .pop => "list.pop" | .popAt => "list.pop" | .extend => "list.extend" | .clear => "list.clear" | .join => "str.join" | .index => "list.index"
theorem Mth.plain : ∀ m : Mth, PlainAttrs m.T
  | .append | .pop | .popAt | .extend | .clear | .index => PySem.F.plainAttrs_list
  | .join => PySem.F.plainAttrs_str
theorem Mth.slot : ∀ m : Mth, Slot m.T m.nm m.id
  | .append => PySem.F.slot_list_append | .pop => PySem.F.slot_list_pop | .popAt => PySem.F.slot_list_pop | .extend => PySem.F.slot_list_extend | .clear => PySem.F.slot_list_clear
  | .join => PySem.F.slot_str_join | .index => PySem.F.slot_list_index
theorem Mth.type : ∀ m : Mth, typeOf (.builtin m.id) = pure (.type "method_descriptor")
  | .append => PySem.F.type_list_append | .pop => PySem.F.type_list_pop | .popAt => PySem.F.type_list_pop | .extend => PySem.F.type_list_extend | .clear => PySem.F.type_list_clear
  | .join => PySem.F.type_str_join | .index => PySem.F.type_list_index
def rMth (K : PySem.W.Frag) : Mth → V → List V → Hp → VK → Prop
  | .append => rAppend
  | .pop => rPop
  | .popAt => rPopAt
  | .extend => rExtendR K
  | .clear => rClear
  | .index => rIndexD K
  | .join => fun x xs H Q => ∃ a p, ∃ ys : List Str, x = .str a ∧ xs = [.ref p] ∧ (SqL K H p (ys.map V.str) ∨ SqT K H p (ys.map V.str)) ∧
      (ys.map Str.length).sum + ys.length * a.length ≤ 16777216 ∧ Q (.str (Txt.join a ys)) H
theorem mt_all {X : Cx} (hu : X.A.units + 65 < cLine) : ∀ m : Mth, MtR X m.id (rMth X.K m)
  | .append => mt_append
  | .pop => mt_pop
  | .popAt => mt_popAt
  | .extend => mt_extendR
  | .clear => mt_clear
  | .index => mt_indexD hu
  | .join => mt_join
theorem rcvs {C : Ctx} {m : Mth} {x : W} {vx : V} {S : Sto} {H : Hp} (s : StoOk C.K S H) (rx : Rep C.K (fz S H) x vx) (g : rcvW m x S) : tyV C.K.K m.T vx H := by
  unfold rcvW at g
  split at g
  · rename_i h
    cases rx
    exact h
  · rename_i h
    cases rx
    obtain ⟨ws, e⟩ := g
    obtain ⟨u, hu, vs, rfl, r⟩ := s.at' _ _ e
    exact .inl ⟨h, vs, .of hu⟩
  · rename_i ws h
    obtain ⟨a, vs, rfl, ha, _⟩ := rdL_sq s rx (rfl : rdL S (.lst ws) = some ws)
    exact .inl ⟨h, vs, ha.sq⟩
  · exact g.elim
theorem mths {C : Ctx} (m : Mth) {x : W} {vx : V} {ws : List W} {vs : List V} {ρ : Env} {σ : L2.St} {S : Sto} {H : Hp} {Q : WK} {Q' : VK} (s : Sim C.K ρ σ S H) (rx : Rep C.K (fz S H) x vx) (r : RepL C.K (fz S H) ws vs)
    (g : mthW m x ws S Q) (k : Kv C ρ σ S H Q Q') : rMth C.K.K m vx vs H Q' := by
  have fin : ∀ {a : Addr} {ob ob' : Ob} {o : HO} {w : W} {v : V}, S a = some ob → ObR C.K (fz S H) H a ob' o → Rep C.K (fz S H) w v → Q w (sup S a ob') → Q' v (upd H a o) := fun {a ob ob' o w v} h r rv q => by
    have e : Same (fz S H) (fz (sup S a ob') (upd H a o)) := by
      rw [fz_put h]
      exact Same.refl _
    exact k _ _ _ _ (s.to e (s.sto.put h r)) e (rv.mono e) q
  unfold mthW at g
  split at g
  · obtain _ | ⟨r1, _ | _⟩ := r
    cases rx
    obtain ⟨ws, hs, hl, q⟩ := g
    obtain ⟨u, hu, us, rfl, ru⟩ := s.sto.at' _ _ hs
    exact ⟨_, us, _, rfl, rfl, hu, by rw [← ru.length]; exact hl, fin hs (by exact ⟨_, rfl, ru.append (.cons r1 .nil)⟩) .non q⟩
  · cases r
    cases rx
    obtain ⟨ws, w, hs, hl, q⟩ := g
    obtain ⟨u, hu, us, rfl, ru⟩ := s.sto.at' _ _ hs
    obtain ⟨v, hv, rv⟩ := ru.get hl
    exact ⟨_, us, v, rfl, rfl, hu, by rw [← ru.length]; exact hv, fin hs (by exact ⟨_, rfl, ru.dropLast⟩) rv q⟩
  · obtain _ | ⟨r1, _ | _⟩ := r
    cases r1
    cases rx
    obtain ⟨ws, j, w, hs, h1, h2, hj, hl, q⟩ := g
    obtain ⟨u, hu, us, rfl, ru⟩ := s.sto.at' _ _ hs
    obtain ⟨v, hv, rv⟩ := ru.get hl
    exact ⟨_, us, _, j, v, rfl, rfl, hu, h1, h2, by rw [← ru.length]; exact hj, hv, fin hs (by exact ⟨_, rfl, ru.eraseIdx j⟩) rv q⟩
  · cases r
    cases rx
    obtain ⟨ws, hs, q⟩ := g
    obtain ⟨u, hu, us, rfl, ru⟩ := s.sto.at' _ _ hs
    exact ⟨_, us, rfl, rfl, hu, fin hs (by exact ⟨_, rfl, .nil⟩) .non q⟩
  · obtain _ | ⟨r1, _ | _⟩ := r
    obtain ⟨us, d, ds, j, z, hu, hv, hd, sl, sd, hz, hzj, hno, q⟩ := g
    obtain ⟨a, zs, rfl, ha, ra⟩ := rdL_sq s.sto rx hu
    exact ⟨a, _, d, ds, j, z, rfl, rfl, .lst ha.sq (hv.dp s.sto ra), hd.dp s.sto r1, sl, sd, hz, hzj, hno, k.give s (.int _) q⟩
  · obtain _ | ⟨r1, _ | _⟩ := r
    cases rx
    obtain ⟨ws, zs, hs, hz, hl, q⟩ := g
    obtain ⟨u, hu, us, rfl, ru⟩ := s.sto.at' _ _ hs
    obtain ⟨b, ts, rfl, hb, rb⟩ := rdL_sq s.sto r1 hz
    exact ⟨_, b, us, ts, rfl, rfl, hu, hb, by rw [← ru.length, ← rb.length]; exact hl, fin hs (by exact ⟨_, rfl, ru.append rb⟩) .non q⟩
  · obtain _ | ⟨r1, _ | _⟩ := r
    cases rx
    obtain ⟨ws, ss, hw, hss, hl, q⟩ := g
    obtain ⟨b, ts, rfl, hb, rb⟩ := rdQ_sq s.sto r1 hw
    obtain rfl := strsW_v hss rb
    exact ⟨_, b, ss, rfl, rfl, hb, hl, k.give s (.str _) q⟩
  · exact g.elim
end MP

set_option Elab.async false
set_option linter.all false
set_option maxRecDepth 100000
set_option maxHeartbeats 4000000
/-! MP4d: list(zip(a, b)) as an expression. -/
namespace MP
open PySem PySem.Spec PySem.Calls PyProof.Rows L2

/-- pairs laid at their addresses -/
def putP : Hp → List Addr → List (V × V) → Hp
  | H, t :: ts, p :: ps => putP (upd H t (.tup [p.1, p.2])) ts ps
  | H, _, _ => H
theorem putP_out {b : Addr} : ∀ (ts : List Addr) (ps : List (V × V)) (H : Hp), b ∉ ts → putP H ts ps b = H b
  | [], _, _, _ => rfl
  | _ :: _, [], _, _ => rfl
  | t :: ts, p :: ps, H, h => by
    have h1 : b ≠ t := fun e => h (by rw [e]; exact List.mem_cons_self)
    have h2 : b ∉ ts := fun e => h (List.mem_cons_of_mem _ e)
    have e : putP H (t :: ts) (p :: ps) b = putP (upd H t (.tup [p.1, p.2])) ts ps b := rfl
    rw [e, putP_out ts ps _ h2, upd_ne h1]
theorem putP_in : ∀ (ts : List Addr) (ps : List (V × V)) (H : Hp) (j : Nat) (t : Addr) (p : V × V), ts.Nodup → ts[j]? = some t → ps[j]? = some p → putP H ts ps t = some (.tup [p.1, p.2])
  | [], _, _, j, _, _, _, h, _ => by simp at h
  | _ :: _, [], _, j, _, _, _, _, h => by simp at h
  | t0 :: ts, p0 :: ps, H, 0, t, p, nd, h1, h2 => by
    cases h1
    cases h2
    have e : putP H (t0 :: ts) (p0 :: ps) t0 = putP (upd H t0 (.tup [p0.1, p0.2])) ts ps t0 := rfl
    rw [e, putP_out ts ps _ (List.nodup_cons.mp nd).1, upd_same]
  | t0 :: ts, p0 :: ps, H, j + 1, t, p, nd, h1, h2 => putP_in ts ps _ j t p (List.nodup_cons.mp nd).2 (by simpa using h1) (by simpa using h2)
def tLZip (K : PySem.W.Frag) (ta : TA) : TE := fun σ H Q => ta σ H fun vs H1 => ∃ a b xs ys, vs = [.ref a, .ref b] ∧ SqL K H1 a xs ∧ SqL K H1 b ys ∧
  ∀ ts p, ts.length = (xs.zip ys).length → ts.Nodup → (∀ t ∈ ts, H1 t = none) → H1 p = none → p ∉ ts → Q (.ref p) (upd (putP H1 ts (xs.zip ys)) p (.lst (ts.map V.ref)))
section
variable {X : Cx}
theorem pe_listZip {e e2 : Expr} {ta : TA} {p p2 pos pos2 : Pos} (hc : X.calm = true) (hg : Gl X "list") (hm : X.mg "list" = none) (hg2 : Gl X "zip") (hm2 : X.mg "zip" = none) (ha : PA X [e, e2] ta)
    (na : starEach [e, e2] X.env = (false, eval e X.env) :: starEach [e2] X.env) (npl : (backTo pos2 (starEach [e2] X.env)).any (·.1) = false) :
    PE X (.Call (.Name "list" p) [.Call (.Name "zip" p2) [e, e2] [] pos2] [] pos) (tLZip X.K ta) := by
  refine ⟨fun pins s σ H Q I h => ?_⟩
  refine Call_ (ld_blt I hg hm boot_list (PyProof.Rows.callWith_type1 (args_cons (Call_ (ld_blt I hg2 hm2 PyProof.Rows.boot_zip (PyProof.Rows.callWith_type1 (thn (ha.run pos2 pins s σ H _ I h) fun us s1 ⟨vs, H1, I1, r1, q1⟩ => ?_) na npl))) rfl) rfl rfl))
  obtain ⟨a, b, xs, ys, rfl, hx, hy, q⟩ := q1
  cases r1 with
  | cons r rr =>
    cases rr with
    | cons r' rr =>
      cases rr
      cases r
      cases r'
      obtain ⟨ix, rx, px, lx⟩ := I1.list hx
      obtain ⟨iy, ry, py, ly⟩ := I1.list hy
      have la : a < s1.heap.objs.size := px.lt
      have lb : b < s1.heap.objs.size := py.lt
      refine call_zip_2 px.isList py.isList fun h1 hz hTI hTO f1 f2 hsz hk => ?_
      refine args_nil ?_
      have N5 : h1.objs.size = s1.heap.objs.size + 5 := hsz
      have nx : ix.toArray.size = xs.length := by rw [List.size_toArray, rx.length]
      have ny : iy.toArray.size = ys.length := by rw [List.size_toArray, ry.length]
      have hmin : min ix.toArray.size iy.toArray.size = (xs.zip ys).length := by rw [nx, ny, List.length_zip]
      refine list_zip (s := { s1 with heap := h1 }) (a := ⟨s1.heap.objs.size + 4, s1.heap.objs.size + 2, s1.heap.objs.size + 3, s1.heap.objs.size, s1.heap.objs.size + 1, a, b⟩) (xs := ix.toArray) (ys := iy.toArray) (I1.ok.hd hc)
        (PySem.W.ktu_apart s1.heap.objs.size a b la lb) ⟨hTI, f1, f2, px.isList.at fun o z => hk _ o z, py.isList.at fun o z => hk _ o z, ⟨_, _, hTO⟩, .inl hz⟩ hz (by rw [nx]; exact Nat.le_trans (Nat.min_le_left _ _) lx) fun h2 tk acc c ts kp hS hacc hlen g => ?_
      have low : ∀ {d : Addr} {o : Obj}, s1.heap.get? d = some o → h2.get? d = some o := fun {d o} z => by
        have hd := Heap.lt_size z
        exact kp d o ⟨Nat.ne_of_lt (Nat.lt_of_lt_of_le hd (Nat.le_add_right _ _)), Nat.ne_of_lt (Nat.lt_of_lt_of_le hd (Nat.le_add_right _ _)), Nat.ne_of_lt hd, Nat.ne_of_lt (Nat.lt_of_lt_of_le hd (Nat.le_add_right _ _))⟩ (hk d o z)
      have pN : s1.heap.objs.size ≤ h1.objs.size := by rw [N5]; exact Nat.le_add_right _ _
      have tN : ∀ t ∈ ts, s1.heap.objs.size ≤ t := fun t ht => Nat.le_trans pN (Nat.le_of_lt (g.over t ht))
      have nd : ts.Nodup := List.Pairwise.imp (fun {u v} (z : u < v) => Nat.ne_of_lt z) g.up
      have tlen : ts.length = (xs.zip ys).length := by rw [hlen, hmin]
      have pT : h1.objs.size ∉ ts := fun z => Nat.lt_irrefl _ (g.over _ z)
      have newT : ∀ t ∈ ts, H1 t = none := fun t ht => I1.hok.fresh (tN t ht)
      have newS : H1 h1.objs.size = none := I1.hok.fresh pN
      have old : ∀ d, H1 d ≠ none → d ∉ ts ∧ d ≠ h1.objs.size := fun d hd => ⟨fun z => hd (newT d z), fun z => hd (by rw [z]; exact newS)⟩
      have old2 : ∀ d o, s1.heap.get? d = some o → d ∉ ts ∧ d ≠ h1.objs.size := fun d o z => ⟨fun y => absurd (Heap.lt_size z) (Nat.not_lt.mpr (tN d y)), fun y => absurd (Heap.lt_size z) (Nat.not_lt.mpr (by rw [y]; exact pN))⟩
      have H2at : ∀ d, d ∉ ts → d ≠ h1.objs.size → (upd (putP H1 ts (xs.zip ys)) h1.objs.size (.lst (ts.map V.ref))) d = H1 d := fun d z1 z2 => by rw [upd_ne z2, putP_out _ _ _ z1]
      have keepH : ∀ d o, H1 d = some o → (upd (putP H1 ts (xs.zip ys)) h1.objs.size (.lst (ts.map V.ref))) d = some o := fun d o z => by
        obtain ⟨z1, z2⟩ := old d (by rw [z]; simp)
        rw [H2at d z1 z2]
        exact z
      refine ⟨.ref h1.objs.size, _, I1.call' (ch := []) rfl ⟨fun d o z _ _ _ => low z, fun d o z _ _ _ => ⟨o.slots, low z⟩, fun d o z n _ => ?_, fun d o z _ => ⟨o, low z⟩, fun d zs z => keepH d _ z, fun d o u z => keepH d _ z, fun d zs z => ⟨#[], by rw [keepH d _ z]; simp⟩⟩
        (fun d u z => ?_) I1.bare (fun d z => by simp at z), rfl, q ts h1.objs.size tlen nd newT newS pT⟩
      · obtain ⟨z1, z2⟩ := old2 d o z
        rw [H2at d z1 z2]
        exact n
      · by_cases hd : d ∈ ts
        · obtain ⟨j, hj⟩ := List.mem_iff_getElem?.mp hd
          have jl : j < (xs.zip ys).length := by rw [← tlen]; exact (List.getElem?_eq_some_iff.mp hj).1
          have dS : d ≠ h1.objs.size := fun y => pT (y ▸ hd)
          rw [upd_ne dS, putP_in ts _ H1 j d _ nd hj (List.getElem?_eq_getElem jl)] at z
          cases z
          obtain ⟨x, y, e1, e2, e3⟩ := g.is j d hj
          have jx : j < xs.length := by rw [List.length_zip] at jl; omega
          have jy : j < ys.length := by rw [List.length_zip] at jl; omega
          obtain ⟨u1, g1, g2⟩ := rx.get (List.getElem?_eq_getElem jx)
          obtain ⟨u2, g3, g4⟩ := ry.get (List.getElem?_eq_getElem jy)
          have f1' : x = u1 := by
            have : ix[j]? = some x := by simpa using e1
            rw [g1] at this
            exact (Option.some.inj this).symm
          have f2' : y = u2 := by
            have : iy[j]? = some y := by simpa using e2
            rw [g3] at this
            exact (Option.some.inj this).symm
          subst f1' f2'
          have zz : (xs.zip ys)[j] = (xs[j], ys[j]) := List.getElem_zip
          rw [zz]
          exact ⟨by show 2 ≤ sizeLine; rw [sizeLine_eq]; omega, [x, y], .cons g2 (.cons g4 .nil), ⟨_, e3, rfl, _, rfl⟩⟩
        · by_cases hd2 : d = h1.objs.size
          · subst hd2
            rw [upd_same] at z
            cases z
            refine ⟨by rw [List.length_map, tlen, List.length_zip]; omega, acc.toList, c, by rw [hacc]; exact vals_refs ts, ?_⟩
            rw [Array.toArray_toList]
            exact hS
          · rw [H2at d hd hd2] at z
            exact (I1.hok d u z).stay (fun d v _ y => low y) (fun d y => keepH d _ y) fun d zs y => keepH d _ y
end
/-- the pairs, and the list of them, as values -/
theorem zip_new {K : KH} {S : Sto} : ∀ (ts : List Addr) {H : Hp} {ws zs : List W} {us vs : List V}, StoOk K S H → RepL K (fz S H) ws us → RepL K (fz S H) zs vs → ts.length = (us.zip vs).length → ts.Nodup → (∀ t ∈ ts, H t = none) →
    StoOk K S (putP H ts (us.zip vs)) ∧ Same (fz S H) (fz S (putP H ts (us.zip vs))) ∧ RepL K (fz S (putP H ts (us.zip vs))) (zipW ws zs) (ts.map V.ref)
  | [], H, ws, zs, us, vs, k, r1, r2, hl, _, _ => by
    have e : us.zip vs = [] := List.eq_nil_of_length_eq_zero hl.symm
    rw [e]
    refine ⟨k, Same.refl _, ?_⟩
    cases r1 with
    | nil => exact .nil
    | cons a b =>
      cases r2 with
      | nil => exact .nil
      | cons c d => simp at e
  | t :: ts, H, ws, zs, us, vs, k, r1, r2, hl, nd, hn => by
    cases r1 with
    | nil => simp at hl
    | cons a b =>
      cases r2 with
      | nil => simp at hl
      | cons c d =>
        rename_i w ws u us z zs v vs
        have nT : H t = none := hn t List.mem_cons_self
        have s1 := same_new (o := .tup [u, v]) k nT
        obtain ⟨h1, h2, h3⟩ := zip_new ts (H := upd H t (.tup [u, v])) (k.new nT) (b.mono s1) (d.mono s1) (by simpa using hl) (List.nodup_cons.mp nd).2 fun x hx => by
          rw [upd_ne (fun e => (List.nodup_cons.mp nd).1 (by rw [← e]; exact hx))]
          exact hn x (List.mem_cons_of_mem _ hx)
        refine ⟨h1, s1.trans h2, .cons (Rep.mono h2 (.tup (k.nohid nT) (fz_new k nT) (.cons (a.mono s1) (.cons (c.mono s1) .nil)))) h3⟩
end MP

set_option Elab.async false
set_option linter.all false
set_option maxRecDepth 100000
set_option maxHeartbeats 4000000
/-! MP6: what is walked, comprehensions, loops. -/
namespace MP
open PySem PySem.Spec PyProof.Rows L2

/-- a walk of the layer that yields these items as long as src stands -/
structure ItOk (K : KH) (S0 : Sto) (H0 : Hp) (J : It) (src : Sto → Prop) (items : List W) : Prop where
  go : ∀ i S H, StoOk K S H → Same (fz S0 H0) (fz S H) → src S → i < items.length → J.go i H
  stop : ∀ i S H, StoOk K S H → Same (fz S0 H0) (fz S H) → src S → items.length ≤ i → J.stop i H
  yld : ∀ i S H x H', StoOk K S H → Same (fz S0 H0) (fz S H) → src S → i < items.length → J.yld i H x H' → ∃ w, items[i]? = some w ∧ StoOk K S H' ∧ Same (fz S H) (fz S H') ∧ Rep K (fz S H') w x
/-- .. whatever is hidden beside what stands -/
def ItA (c : Ct0) (h : Addr → Bool) (S : Sto) (H : Hp) (J : It) (src : Sto → Prop) (items : List W) : Prop :=
  ∀ h' : Addr → Bool, (∀ b o, fz S H b = some o → h' b = h b) → ItOk ⟨c.K, h'⟩ S H J src items
def tOfI (c : Ct0) (t : Env → Sto → ((Sto → Prop) → List W → Sto → Prop) → XC → Prop) : TI := fun σ H R => ∃ h ρ S Q X, Sim (c.at h).K ρ σ S H ∧ t ρ S Q X ∧
  (∀ src items S' J H', Sim (c.at h).K ρ σ S' H' → Same (fz S H) (fz S' H') → ItA c h S' H' J src items → Q src items S' → R J H') ∧ XCk (c.at h).K (c.E σ) S H X
theorem PI.imp {X : Cx} {tg e : Expr} {t t' : TI} (h : PI X tg e t) (i : ∀ σ H R, t' σ H R → t σ H R) : PI X tg e t' := ⟨fun pins s σ H R I q => h.run pins s σ H R I (i σ H R q)⟩

/-! ### lists, tuples, texts -/
def iSeq (K : PySem.W.Frag) (tl : TE) : TI := fun σ H R => tl σ H fun x H1 => (∃ a, x = .ref a ∧ (((∃ xs, SqL K H1 a xs) ∧ R (Itl K a) H1) ∨ ((∃ xs, SqT K H1 a xs) ∧ R (Itt K a) H1))) ∨ ∃ z, x = .str z ∧ R (Its z) H1
theorem pi_seq {X : Cx} {tg l : Expr} {tl : TE} (hl : PE X l tl) : PI X tg l (iSeq X.K tl) := by
  refine ⟨fun pins s σ H R I h => ?_⟩
  refine thn (hl.run pins s σ H _ I h) fun v s1 ⟨x, H1, I1, r1, q1⟩ => ?_
  rcases q1 with ⟨a, e, ⟨⟨xs, hq⟩, q⟩ | ⟨⟨xs, hq⟩, q⟩⟩ | ⟨z, e, q⟩
  · subst e
    cases r1
    obtain ⟨its, rv, p, hz⟩ := I1.list hq
    refine wpAny_pyIter_list p.isList ?_
    refine ⟨s1.heap.objs.size, [s1.heap.objs.size], _, _, H1, rfl, I1.kept (t' := s1.toks) fun b o e => Heap.get?_push_of_some _ e, turn_list a _, ⟨_, Heap.get?_push_size _ rfl, rfl, rfl⟩, fun b hb => ?_, q⟩
    have e : b = s1.heap.objs.size := by simpa using hb
    subst e
    exact I1.fpOk (Nat.le_refl _) (I1.hok.fresh (Nat.le_refl _))
  · subst e
    cases r1
    obtain ⟨its, rv, p, hz⟩ := I1.tuple hq
    refine wpAny_pyIter_tuple (show s1.heap.IsTuple a its.toArray from p) ?_
    refine ⟨s1.heap.objs.size, [s1.heap.objs.size], _, _, H1, rfl, I1.kept (t' := s1.toks) fun b o e => Heap.get?_push_of_some _ e, turn_tuple a _, ⟨_, Heap.get?_push_size _ rfl, rfl, rfl⟩, fun b hb => ?_, q⟩
    have e : b = s1.heap.objs.size := by simpa using hb
    subst e
    exact I1.fpOk (Nat.le_refl _) (I1.hok.fresh (Nat.le_refl _))
  · subst e
    obtain ⟨t, rfl⟩ := r1
    cases ha : z.cps.all (· < 128)
    · exact wpAny_pyIter_wide ha (pi_one (tk := s1.toks) I1 _ (turn_str _ z t "str_iterator" (.inr rfl)) ⟨_, Heap.get?_push_size _ rfl, rfl, rfl⟩ q)
    · exact wpAny_pyIter_ascii ha (pi_one (tk := s1.toks) I1 _ (turn_str _ z t "str_ascii_iterator" (.inl rfl)) ⟨_, Heap.get?_push_size _ rfl, rfl, rfl⟩ q)
section
variable {K : KH} {S0 : Sto} {H0 : Hp}
theorem itok_list {w : W} {a : Addr} {ws : List W} (r : Rep K (fz S0 H0) w (.ref a)) (e : rdL S0 w = some ws) : ItOk K S0 H0 (Itl K.K a) (fun S => rdL S w = some ws) ws := by
  have at' : ∀ S H, StoOk K S H → Same (fz S0 H0) (fz S H) → rdL S w = some ws → ∃ vs, SqL K.K H a vs ∧ RepL K (fz S H) ws vs := fun S H k m h => by
    obtain ⟨a', vs, e, h1, h2⟩ := rdL_sq k (r.mono m) h
    cases e
    exact ⟨vs, h1.sq, h2⟩
  refine ⟨fun i S H k m h hi => ?_, fun i S H k m h hi => ?_, fun i S H x H' k m h hi hy => ?_⟩
  · obtain ⟨vs, h1, h2⟩ := at' S H k m h
    obtain ⟨v, hv, _⟩ := h2.get (List.getElem?_eq_getElem hi)
    exact ⟨vs, v, h1, hv⟩
  · obtain ⟨vs, h1, h2⟩ := at' S H k m h
    exact ⟨vs, h1, by rw [← h2.length]; exact hi⟩
  · obtain ⟨vs, h1, h2⟩ := at' S H k m h
    obtain ⟨rfl, f⟩ := hy
    obtain ⟨u, hu, ru⟩ := h2.get' (f vs h1)
    exact ⟨u, hu, k, Same.refl _, ru⟩
theorem itok_tup {a : Addr} {ws : List W} {P : Sto → Prop} (r : Rep K (fz S0 H0) (.tup ws) (.ref a)) : ItOk K S0 H0 (Itt K.K a) P ws := by
  have at' : ∀ S H, StoOk K S H → Same (fz S0 H0) (fz S H) → ∃ vs, SqT K.K H a vs ∧ RepL K (fz S H) ws vs := fun S H k m => by
    obtain ⟨a', vs, e, h1, h2⟩ := tup_sq (r.mono m)
    cases e
    exact ⟨vs, .of h1, h2⟩
  refine ⟨fun i S H k m h hi => ?_, fun i S H k m h hi => ?_, fun i S H x H' k m h hi hy => ?_⟩
  · obtain ⟨vs, h1, h2⟩ := at' S H k m
    obtain ⟨v, hv, _⟩ := h2.get (List.getElem?_eq_getElem hi)
    exact ⟨vs, v, h1, hv⟩
  · obtain ⟨vs, h1, h2⟩ := at' S H k m
    exact ⟨vs, h1, by rw [← h2.length]; exact hi⟩
  · obtain ⟨vs, h1, h2⟩ := at' S H k m
    obtain ⟨rfl, f⟩ := hy
    obtain ⟨u, hu, ru⟩ := h2.get' (f vs h1)
    exact ⟨u, hu, k, Same.refl _, ru⟩
theorem itok_str {z : Str} {P : Sto → Prop} : ItOk K S0 H0 (Its z) P (sgnW z) := by
  have hl : (sgnW z).length = z.cps.size := by unfold sgnW; rw [List.length_map, Array.length_toList]
  refine ⟨fun i S H k m h hi => ?_, fun i S H k m h hi => ?_, fun i S H x H' k m h hi hy => ?_⟩
  · rw [hl] at hi; exact hi
  · rw [hl] at hi; exact hi
  · obtain ⟨rfl, c, hc, rfl⟩ := hy
    refine ⟨.str ⟨#[c]⟩, ?_, k, Same.refl _, .str _⟩
    unfold sgnW
    rw [List.getElem?_map, Array.getElem?_toList, hc]
    rfl
theorem itok_range {lo : Int} {n : Nat} {P : Sto → Prop} : ItOk K S0 H0 (Itr lo n) P (rngW lo n) := by
  have hl : (rngW lo n).length = n := by unfold rngW; rw [List.length_map, List.length_range]
  refine ⟨fun i S H k m h hi => ?_, fun i S H k m h hi => ?_, fun i S H x H' k m h hi hy => ?_⟩
  · rw [hl] at hi; exact hi
  · rw [hl] at hi; exact hi
  · obtain ⟨rfl, rfl⟩ := hy
    rw [hl] at hi
    refine ⟨.int (lo + i), ?_, k, Same.refl _, .int _⟩
    unfold rngW
    rw [List.getElem?_map, List.getElem?_range hi]
    rfl
theorem itok_rangeC {lo c : Int} {n : Nat} {P : Sto → Prop} : ItOk K S0 H0 (Itc lo c n) P ((List.range n).map fun (k : Nat) => W.int (lo + k * c)) := by
  have hl : ((List.range n).map fun (k : Nat) => W.int (lo + k * c)).length = n := by rw [List.length_map, List.length_range]
  refine ⟨fun i S H k m h hi => ?_, fun i S H k m h hi => ?_, fun i S H x H' k m h hi hy => ?_⟩
  · rw [hl] at hi; exact hi
  · rw [hl] at hi; exact hi
  · obtain ⟨rfl, rfl⟩ := hy
    rw [hl] at hi
    exact ⟨.int (lo + i * c), by rw [List.getElem?_map, List.getElem?_range hi]; rfl, k, Same.refl _, .int _⟩
theorem enmW_get : ∀ (ws : List W) (n i : Nat) (w : W), ws[i]? = some w → (enmW n ws)[i]? = some (.tup [.int ((n + i : Nat) : Int), w])
  | [], _, _, _, h => by simp at h
  | x :: ws, n, 0, w, h => by
    have : x = w := by simpa using h
    subst this
    rfl
  | x :: ws, n, i + 1, w, h => by
    have e := enmW_get ws (n + 1) i w (by simpa using h)
    have : n + 1 + i = n + (i + 1) := by omega
    rw [this] at e
    exact e
theorem enmW_len : ∀ (ws : List W) (n : Nat), (enmW n ws).length = ws.length
  | [], _ => rfl
  | _ :: ws, n => by show (enmW (n + 1) ws).length + 1 = _; rw [enmW_len ws]; rfl
theorem zipW_len : ∀ (xs ys : List W), (zipW xs ys).length = min xs.length ys.length
  | [], ys => by cases ys <;> simp [zipW]
  | x :: xs, [] => by simp [zipW]
  | x :: xs, y :: ys => by
    show (zipW xs ys).length + 1 = min (xs.length + 1) (ys.length + 1)
    rw [zipW_len xs ys]
    omega
theorem zipW_get : ∀ (xs ys : List W) (i : Nat) (x y : W), xs[i]? = some x → ys[i]? = some y → (zipW xs ys)[i]? = some (.tup [x, y])
  | [], _, _, _, _, h, _ => by simp at h
  | _ :: _, [], _, _, _, _, h => by simp at h
  | x :: xs, y :: ys, 0, a, b, h1, h2 => by
    have e1 : x = a := by simpa using h1
    have e2 : y = b := by simpa using h2
    subst e1; subst e2
    rfl
  | x :: xs, y :: ys, i + 1, a, b, h1, h2 => zipW_get xs ys i a b (by simpa using h1) (by simpa using h2)
theorem itok_enum {w : W} {a : Addr} {ws : List W} (r : Rep K (fz S0 H0) w (.ref a)) (e : rdL S0 w = some ws) : ItOk K S0 H0 (Ite K.K a) (fun S => rdL S w = some ws) (enmW 0 ws) := by
  have at' : ∀ S H, StoOk K S H → Same (fz S0 H0) (fz S H) → rdL S w = some ws → ∃ vs, SqL K.K H a vs ∧ RepL K (fz S H) ws vs := fun S H k m h => by
    obtain ⟨a', vs, e, h1, h2⟩ := rdL_sq k (r.mono m) h
    cases e
    exact ⟨vs, h1.sq, h2⟩
  have hl := enmW_len ws 0
  refine ⟨fun i S H k m h hi => ?_, fun i S H k m h hi => ?_, fun i S H x H' k m h hi hy => ?_⟩
  · rw [hl] at hi
    obtain ⟨vs, h1, h2⟩ := at' S H k m h
    obtain ⟨v, hv, _⟩ := h2.get (List.getElem?_eq_getElem hi)
    exact ⟨vs, v, h1, hv⟩
  · rw [hl] at hi
    obtain ⟨vs, h1, h2⟩ := at' S H k m h
    exact ⟨vs, h1, by rw [← h2.length]; exact hi⟩
  · obtain ⟨vs, h1, h2⟩ := at' S H k m h
    obtain ⟨T, y, rfl, nT, rfl, f⟩ := hy
    obtain ⟨u, hu, ru⟩ := h2.get' (f vs h1)
    have sm := same_new (o := .tup [.int (i : Nat), y]) k nT
    refine ⟨_, enmW_get ws 0 i u hu, k.new nT, sm, .tup (k.nohid nT) (fz_new k nT) (.cons ?_ (.cons (ru.mono sm) .nil))⟩
    rw [Nat.zero_add]
    exact .int _
theorem itok_zip {w w' : W} {a b : Addr} {xs ys : List W} (r : Rep K (fz S0 H0) w (.ref a)) (r' : Rep K (fz S0 H0) w' (.ref b)) :
    ItOk K S0 H0 (Itz K.K a b) (fun S => rdL S w = some xs ∧ rdL S w' = some ys) (zipW xs ys) := by
  have at' : ∀ {w : W} {a : Addr} {xs : List W}, Rep K (fz S0 H0) w (.ref a) → ∀ S H, StoOk K S H → Same (fz S0 H0) (fz S H) → rdL S w = some xs → ∃ vs, SqL K.K H a vs ∧ RepL K (fz S H) xs vs := fun r S H k m h => by
    obtain ⟨a', vs, e, h1, h2⟩ := rdL_sq k (r.mono m) h
    cases e
    exact ⟨vs, h1.sq, h2⟩
  have hl := zipW_len xs ys
  refine ⟨fun i S H k m h hi => ?_, fun i S H k m h hi => ?_, fun i S H x H' k m h hi hy => ?_⟩
  · rw [hl] at hi
    obtain ⟨us, p1, p2⟩ := at' r S H k m h.1
    obtain ⟨vs, q1, q2⟩ := at' r' S H k m h.2
    obtain ⟨u, hu, _⟩ := p2.get (List.getElem?_eq_getElem (show i < xs.length by omega))
    obtain ⟨v, hv, _⟩ := q2.get (List.getElem?_eq_getElem (show i < ys.length by omega))
    exact ⟨us, vs, u, v, p1, q1, hu, hv⟩
  · rw [hl] at hi
    obtain ⟨us, p1, p2⟩ := at' r S H k m h.1
    obtain ⟨vs, q1, q2⟩ := at' r' S H k m h.2
    have e1 := p2.length
    have e2 := q2.length
    exact ⟨us, vs, p1, q1, by omega⟩
  · obtain ⟨us, p1, p2⟩ := at' r S H k m h.1
    obtain ⟨vs, q1, q2⟩ := at' r' S H k m h.2
    obtain ⟨T, y, z, rfl, nT, rfl, f, g⟩ := hy
    obtain ⟨u, hu, ru⟩ := p2.get' (f us p1)
    obtain ⟨v, hv, rv⟩ := q2.get' (g vs q1)
    have sm := same_new (o := .tup [y, z]) k nT
    exact ⟨_, zipW_get xs ys i u v hu hv, k.new nT, sm, .tup (k.nohid nT) (fz_new k nT) (.cons (ru.mono sm) (.cons (rv.mono sm) .nil))⟩
end
theorem imp_seq {c : Ct0} {e : WE} {σ : L2.St} {H : Hp} {R : It → Hp → Prop} (h : tOfI c (fun ρ S Q X => e ρ S (fun x S1 => ∃ ws, rdI S1 x = some ws ∧ Q (srcW x ws) ws S1) X) σ H R) : iSeq c.K (tOf c e) σ H R := by
  obtain ⟨hh, ρ, S, Q, X, s, q, k, kx⟩ := h
  refine ⟨hh, ρ, S, _, X, s, q, fun w S1 v H1 s1 e1 r1 q1 => ?_, kx⟩
  obtain ⟨ws, hw, q1⟩ := q1
  cases w with
  | str z =>
    cases hw
    cases r1
    exact .inr ⟨z, rfl, k _ _ _ _ _ s1 e1 (fun _ _ => itok_str) q1⟩
  | tup us =>
    cases hw
    obtain ⟨a, vs, rfl, ha, ra⟩ := tup_sq r1
    exact .inl ⟨a, rfl, .inr ⟨⟨vs, .of ha⟩, k _ _ _ _ _ s1 e1 (fun h' hh' => itok_tup (r1.agree hh')) q1⟩⟩
  | lst us =>
    have hl : rdL S1 (.lst us) = some ws := hw
    obtain ⟨a, vs, rfl, ha, ra⟩ := rdL_sq s1.sto r1 hl
    exact .inl ⟨a, rfl, .inl ⟨⟨vs, ha.sq⟩, k _ _ _ _ _ s1 e1 (fun h' hh' => itok_list (r1.agree hh') hl) q1⟩⟩
  | ref b =>
    have hl : rdL S1 (.ref b) = some ws := hw
    obtain ⟨a, vs, rfl, ha, ra⟩ := rdL_sq s1.sto r1 hl
    exact .inl ⟨a, rfl, .inl ⟨⟨vs, ha.sq⟩, k _ _ _ _ _ s1 e1 (fun h' hh' => itok_list (r1.agree hh') hl) q1⟩⟩
  | _ => cases hw

/-! ### loops -/
/-- what is wanted behind a statement -/
structure EndsOk (C : Ctx) (ρ : Env) (σ : L2.St) (S : Sto) (H : Hp) (D' : WEnds) (D : Ends) : Prop where
  nx : ∀ ρ' S' σ' H', Sim C.K ρ' σ' S' H' → Same (fz S H) (fz S' H') → D'.nx ρ' S' → D.nx σ' H'
  rt : ∀ w S' v H', StoOk C.K S' H' → Same (fz S H) (fz S' H') → Rep C.K (fz S' H') w v → D'.rt w S' → D.rt v H'
  bk : ∀ ρ' S' σ' H', Sim C.K ρ' σ' S' H' → Same (fz S H) (fz S' H') → D'.bk ρ' S' → D.bk σ' H'
  ct : ∀ ρ' S' σ' H', Sim C.K ρ' σ' S' H' → Same (fz S H) (fz S' H') → D'.ct ρ' S' → D.ct σ' H'
  xc : ∀ σ', XCk C.K (C.E σ') S H D'.xc
def tOfS (c : Ct0) (w : WS) : TS := fun D σ H => ∃ h ρ S D', Sim (c.at h).K ρ σ S H ∧ w ρ S D' ∧ EndsOk (c.at h) ρ σ S H D' D
theorem EndsOk.to {C : Ctx} {ρ ρ1 : Env} {σ σ1 : L2.St} {S S1 : Sto} {H H1 : Hp} {D' : WEnds} {D : Ends} (h : EndsOk C ρ σ S H D' D) (e : Same (fz S H) (fz S1 H1)) : EndsOk C ρ1 σ1 S1 H1 D' D :=
  ⟨fun a b c d s q => h.nx a b c d s (e.trans q), fun a b c d s q => h.rt a b c d s (e.trans q), fun a b c d s q => h.bk a b c d s (e.trans q), fun a b c d s q => h.ct a b c d s (e.trans q), fun σ' => (h.xc σ').to e⟩
theorem imp_for {c : Ct0} {i : Env → Sto → ((Sto → Prop) → List W → Sto → Prop) → XC → Prop} {g : W → Env → Sto → (Env → Sto → Prop) → Prop} {b : WS} {al : List Nat} {D : Ends} {σ : L2.St} {H : Hp}
    (h : tOfS c (fun ρ S D => i ρ S (fun src items S1 => wpFor src g b items ρ S1 D) D.xc) D σ H) : tFor (tOfI c i) (tOfG c al g) (tOfS c b) D σ H := by
  obtain ⟨hh, ρ, S, D', s, q, k⟩ := h
  refine ⟨hh, ρ, S, _, D'.xc, s, q, fun src items S1 J H1 s1 e1 ita q1 => ?_, k.xc σ⟩
  have it := ita hh fun _ _ _ => rfl
  refine ⟨fun n m σ2 H2 => ∃ ρ2 S2, Sim (c.at hh).K ρ2 σ2 S2 H2 ∧ Same (fz S1 H1) (fz S2 H2) ∧ wpFor src g b (items.drop n) ρ2 S2 D' ∧ m + n = items.length,
    ⟨items.length, ρ, S1, s1, Same.refl _, by rw [List.drop_zero]; exact q1, rfl⟩, fun n m σ2 H2 hW => ?_⟩
  obtain ⟨ρ2, S2, s2, e2, q2, em⟩ := hW
  by_cases hn : n < items.length
  · rw [List.drop_eq_getElem_cons hn] at q2
    obtain ⟨hs, q2⟩ := q2
    refine .inr ⟨it.go n S2 H2 s2.sto e2 hs hn, fun σ3 H3 => ∃ ρ3 S3, Sim (c.at hh).K ρ3 σ3 S3 H3 ∧ Same (fz S1 H1) (fz S3 H3) ∧ wpFor src g b (items.drop (n + 1)) ρ3 S3 D', fun σ3 H3 hN => ?_, fun x H3 hy => ?_⟩
    · obtain ⟨ρ3, S3, s3, e3, q3⟩ := hN
      exact ⟨m - 1, by omega, ρ3, S3, s3, e3, q3, by omega⟩
    · obtain ⟨w, hw, k3, e3, rw'⟩ := it.yld n S2 H2 x H3 s2.sto e2 hs hn hy
      rw [List.getElem?_eq_getElem hn] at hw
      cases hw
      refine ⟨hh, _, ρ2, S2, _, s2.to e3 k3, rw', q2, fun ρ4 S4 σ4 H4 s4 e4 _ q4 => ?_⟩
      refine ⟨hh, ρ4, S4, _, s4, q4, ?_⟩
      have e14 := (e2.trans e3).trans e4
      exact ⟨fun ρ5 S5 σ5 H5 s5 e5 q5 => ⟨ρ5, S5, s5, e14.trans e5, q5⟩, fun w' S5 v5 H5 s5 e5 => k.rt w' S5 v5 H5 s5 ((e1.trans e14).trans e5),
        fun ρ5 S5 σ5 H5 s5 e5 => k.nx ρ5 S5 σ5 H5 s5 ((e1.trans e14).trans e5), fun ρ5 S5 σ5 H5 s5 e5 q5 => ⟨ρ5, S5, s5, e14.trans e5, q5⟩, fun σ' => (k.xc σ').to (e1.trans e14)⟩
  · rw [List.drop_eq_nil_of_le (by omega)] at q2
    exact .inl ⟨it.stop n S2 H2 s2.sto e2 q2.1 (by omega), k.nx _ _ _ _ s2 (e1.trans e2) q2.2⟩
theorem imp_while {c : Ct0} {t : Env → Sto → (Bool → Sto → Prop) → XC → Prop} {b : WS} {D : Ends} {σ : L2.St} {H : Hp}
    (h : tOfS c (fun ρ S D => ∃ I : Nat → Env → Sto → Prop, (∃ m, I m ρ S) ∧ ∀ m ρ S, I m ρ S → t ρ S (fun r S1 =>
      if r = true then b ρ S1 { D with nx := fun ρ2 S2 => ∃ m', m' < m ∧ I m' ρ2 S2, ct := fun ρ2 S2 => ∃ m', m' < m ∧ I m' ρ2 S2, bk := D.nx } else D.nx ρ S1) D.xc) D σ H) : tWhile (tOfT c t) (tOfS c b) D σ H := by
  obtain ⟨hh, ρ, S, D', s, ⟨I, ⟨m0, i0⟩, turn⟩, k⟩ := h
  refine ⟨fun m σ2 H2 => ∃ ρ2 S2, Sim (c.at hh).K ρ2 σ2 S2 H2 ∧ Same (fz S H) (fz S2 H2) ∧ I m ρ2 S2, ⟨m0, ρ, S, s, Same.refl _, i0⟩, fun m σ2 H2 hW => ?_⟩
  obtain ⟨ρ2, S2, s2, e2, i2⟩ := hW
  refine ⟨hh, ρ2, S2, _, D'.xc, s2, turn m ρ2 S2 i2, fun r S3 H3 s3 e3 q3 => ?_, (k.xc σ2).to e2⟩
  have e23 := e2.trans e3
  cases r with
  | true =>
    rw [if_pos rfl] at q3
    refine iteT ⟨fun σ4 H4 => ∃ ρ4 S4 m', m' < m ∧ Sim (c.at hh).K ρ4 σ4 S4 H4 ∧ Same (fz S H) (fz S4 H4) ∧ I m' ρ4 S4, fun σ4 H4 hN => ?_, hh, ρ2, S3, _, s3, q3, ?_⟩
    · obtain ⟨ρ4, S4, m', hm, s4, e4, i4⟩ := hN
      exact ⟨m', hm, ρ4, S4, s4, e4, i4⟩
    · exact ⟨fun ρ5 S5 σ5 H5 s5 e5 ⟨m', hm, i5⟩ => ⟨ρ5, S5, m', hm, s5, e23.trans e5, i5⟩, fun w' S5 v5 H5 s5 e5 => k.rt w' S5 v5 H5 s5 (e23.trans e5),
        fun ρ5 S5 σ5 H5 s5 e5 => k.nx ρ5 S5 σ5 H5 s5 (e23.trans e5), fun ρ5 S5 σ5 H5 s5 e5 ⟨m', hm, i5⟩ => ⟨ρ5, S5, m', hm, s5, e23.trans e5, i5⟩, fun σ' => (k.xc σ').to e23⟩
  | false =>
    rw [if_neg Bool.false_ne_true] at q3
    exact iteF (k.nx _ _ _ _ s3 e23 q3)

/-! ### comprehensions -/
theorem wipe_len (ρ : Env) : ∀ vs : List Nat, (wipeW ρ vs).length = ρ.length
  | [] => rfl
  | v :: vs => by show ((wipeW ρ vs).set v none).length = _; rw [List.length_set, wipe_len ρ vs]
theorem wipe_get {ρ : Env} {i : Nat} {w : W} : ∀ {vs : List Nat}, (wipeW ρ vs)[i]? = some (some w) → ρ[i]? = some (some w) ∧ i ∉ vs
  | [], h => ⟨h, by simp⟩
  | v :: vs, h => by
    have h' : ((wipeW ρ vs).set v none)[i]? = some (some w) := h
    by_cases e : v = i
    · subst e
      by_cases hl : v < (wipeW ρ vs).length
      · rw [List.getElem?_set_self hl] at h'; cases h'
      · rw [List.getElem?_eq_none (by rw [List.length_set]; omega)] at h'; cases h'
    · rw [List.getElem?_set_ne e] at h'
      obtain ⟨h1, h2⟩ := wipe_get h'
      exact ⟨h1, by simp [h2]; exact fun z => e z.symm⟩
theorem wipe_v {σ : L2.St} {i : Nat} : ∀ {vs : List Nat}, i ∉ vs → (wipe σ vs)[i]? = σ[i]?
  | [], _ => rfl
  | v :: vs, h => by
    have h1 : v ≠ i := fun e => h (by simp [e])
    have h2 : i ∉ vs := fun e => h (by simp [e])
    show ((wipe σ vs).set v none)[i]? = σ[i]?
    rw [List.getElem?_set_ne h1, wipe_v h2]
theorem Sim.wipe {K : KH} {ρ : Env} {σ : L2.St} {S : Sto} {H : Hp} (s : Sim K ρ σ S H) (vs : List Nat) : Sim K (wipeW ρ vs) (L2.wipe σ vs) S H := by
  refine ⟨fun i w h => ?_, by rw [wipe_len, wipe_length]; exact s.len, s.sto⟩
  obtain ⟨h1, h2⟩ := wipe_get h
  obtain ⟨v, hv, r⟩ := s.var i w h1
  exact ⟨v, by rw [wipe_v h2]; exact hv, r⟩
/-- a slot that is wiped -/
theorem wipe_at {σ : L2.St} {i : Nat} : ∀ {vs : List Nat}, i ∈ vs → (wipe σ vs)[i]? = if i < σ.length then some none else none
  | v :: vs, h => by
    show ((wipe σ vs).set v none)[i]? = _
    by_cases e : v = i
    · subst e
      by_cases hl : v < σ.length
      · rw [List.getElem?_set_self (by rw [wipe_length]; exact hl), if_pos hl]
      · rw [List.getElem?_eq_none (by rw [List.length_set, wipe_length]; omega), if_neg hl]
    · rw [List.getElem?_set_ne e]
      rcases List.mem_cons.mp h with h | h
      · exact absurd h.symm e
      · exact wipe_at h
theorem wipe_al {σ σ' : L2.St} {vs : List Nat} (h : Al vs (wipe σ vs) σ') : wipe σ' vs = wipe σ vs := by
  apply List.ext_getElem?
  intro i
  by_cases hi : i ∈ vs
  · rw [wipe_at hi, wipe_at hi, h.1, wipe_length]
  · rw [wipe_v hi, h.2 i hi]
theorem imp_lc {c c' : Ct0} {i : Env → Sto → ((Sto → Prop) → List W → Sto → Prop) → XC → Prop} {g : W → Env → Sto → (Env → Sto → Prop) → Prop} {t : Env → Sto → (Bool → Sto → Prop) → Prop} {e : WE} {vs al : List Nat} {live : Bool}
    {σ : L2.St} {H : Hp} {Q' : VK} (hC : c'.K = c.K) (hal : ∀ j ∈ al, j ∈ vs)
    (h : tOf c (fun ρ S Q X => i ρ S (fun src items S1 => wpLc src g t (fun ρ1 S2 Q1 => e ρ1 S2 Q1 XN) (wipeW ρ vs) items [] S1 fun ws S2 => mkL live ws S2 Q) X) σ H Q') :
    tLc (tOfI c i) (tOfG c' al g) (tOfT c' fun ρ S Q _ => t ρ S Q) (tOf c' e) vs σ H Q' := by
  obtain ⟨hh, ρ, S, Q, X, s, q, k, kx⟩ := h
  refine ⟨hh, ρ, S, _, X, s, q, fun src items S1 J H1 s1 e1 ita q1 => ?_, kx⟩
  intro D hD
  obtain ⟨K', E'⟩ := c'
  obtain rfl : K' = c.K := hC
  have s1' := (s1.hide (o := .lst []) hD).wipe vs
  have e1' := same_new (o := .lst []) s1.sto hD
  have hD1 : fz S1 H1 D = none := by
    unfold fz
    split <;> first | rfl | exact hD
  have it := ita ((c.at hh).K.more D).h fun b o e => by
    have hb := ne_of_none e hD1
    unfold KH.more
    simp [hb]
  have nD := s1.sto.nohid hD
  have offD : ∀ {S2 : Sto} {H2 H3 : Hp}, Same (fz S1 H1) (fz S2 H2) → (∀ b, b ≠ D → fz S2 H3 b = fz S2 H2 b) → Same (fz S1 H1) (fz S2 H3) := fun e z b u q => by
    rw [z b (ne_of_none q hD1)]
    exact e b u q
  refine ⟨fun n m H2 => ∃ S2 acc vacc, Sim ((c.at hh).K.more D) (wipeW ρ vs) (wipe σ vs) S2 H2 ∧ Sim ((c.at hh).K.more D) ρ σ S2 H2 ∧ Same (fz S1 H1) (fz S2 H2) ∧ H2 D = some (.lst vacc) ∧ RepL ((c.at hh).K.more D) (fz S2 H2) acc vacc ∧
      wpLc src g t (fun ρ1 S2 Q1 => e ρ1 S2 Q1 XN) (wipeW ρ vs) (items.drop n) acc S2 (fun ws S2 => mkL live ws S2 Q) ∧ m + n = items.length,
    ⟨items.length, S1, [], [], s1', s1.hide hD, e1', upd_same, .nil, by rw [List.drop_zero]; exact q1, rfl⟩, fun n m H2 hW => ?_⟩
  obtain ⟨S2, acc, vacc, s2, s2r, e2, d2, ra, q2, em⟩ := hW
  have k2 : StoOk (c.at hh).K S2 H2 := s2.sto.unhide
  by_cases hn : n < items.length
  · rw [List.drop_eq_getElem_cons hn] at q2
    obtain ⟨hs, q2⟩ := q2
    refine .inr ⟨it.go n S2 H2 s2.sto e2 hs hn, fun H3 => ∃ S3 acc vacc, Sim ((c.at hh).K.more D) (wipeW ρ vs) (wipe σ vs) S3 H3 ∧ Sim ((c.at hh).K.more D) ρ σ S3 H3 ∧ Same (fz S1 H1) (fz S3 H3) ∧ H3 D = some (.lst vacc) ∧
        RepL ((c.at hh).K.more D) (fz S3 H3) acc vacc ∧ wpLc src g t (fun ρ1 S2 Q1 => e ρ1 S2 Q1 XN) (wipeW ρ vs) (items.drop (n + 1)) acc S3 (fun ws S2 => mkL live ws S2 Q), fun H3 hN => ?_, fun x H3 hy => ?_⟩
    · obtain ⟨S3, acc3, vacc3, a1, a2, a3, a4, a5, a6⟩ := hN
      exact ⟨m - 1, by omega, S3, acc3, vacc3, a1, a2, a3, a4, a5, a6, by omega⟩
    · obtain ⟨w, hw, k3, e3, rw'⟩ := it.yld n S2 H2 x H3 s2.sto e2 hs hn hy
      rw [List.getElem?_eq_getElem hn] at hw
      cases hw
      have hS2D : S2 D = none := (s2.sto.hid D KH.more_at).1
      have dTo : ∀ {S5 : Sto} {H5 : Hp}, Same (fz S2 H2) (fz S5 H5) → H5 D = some (.lst vacc) := fun e =>
        (fz_some (e D _ (by rw [fz_none hS2D]; exact d2))).2
      refine ⟨((c.at hh).K.more D).h, _, wipeW ρ vs, S2, _, s2.to e3 k3, rw', q2, fun ρ3 S3 σ3 H4 s3 e4 al3 q3 => ⟨wipe_al (al3.mono hal), ((c.at hh).K.more D).h, ρ3, S3, _, XN, s3, q3, fun r S4 H5 s4 e5 q4 => ?_, XCk.no⟩⟩
      · cases r with
        | true =>
          rw [if_pos rfl] at q4
          refine iteT ⟨((c.at hh).K.more D).h, ρ3, S4, _, XN, s4, q4, fun y S5 vy H6 s5 e6 r5 q5 => ?_, XCk.no⟩
          have e26 := ((e3.trans e4).trans e5).trans e6
          have hS5D : S5 D = none := (s5.sto.hid D KH.more_at).1
          refine ⟨vacc, dTo e26, by rw [← ra.length]; exact q5.1, S5, acc ++ [y], vacc ++ [vy], (s2.to e26 s5.sto).hidden KH.more_at, (s2r.to e26 s5.sto).hidden KH.more_at, offD (e2.trans e26) fz_hid, upd_same, ?_, q5.2⟩
          exact ((ra.mono e26).append (.cons r5 .nil)).hidden KH.more_at fz_hid
        | false =>
          rw [if_neg Bool.false_ne_true] at q4
          have e25 := (e3.trans e4).trans e5
          exact iteF ⟨S4, acc, vacc, s2.to e25 s4.sto, s2r.to e25 s4.sto, e2.trans e25, dTo e25, ra.mono e25, q4⟩
  · rw [List.drop_eq_nil_of_le (by omega)] at q2
    refine .inl ⟨it.stop n S2 H2 s2.sto e2 q2.1 (by omega), ?_⟩
    have hS2D : S2 D = none := (s2.sto.hid D KH.more_at).1
    have q3 := q2.2
    cases live with
    | true =>
      refine k _ _ _ _ (s2r.cell nD d2 ra) (e1.trans fun b u q => ?_) (.ref D) (q3 D hS2D)
      have hb := ne_of_none q hD1
      have := e2 b u q
      unfold fz at this ⊢
      rw [sup_ne hb]
      exact this
    | false => exact k _ _ _ _ s2r.unhide (e1.trans e2) (.lst nD (.inl (by rw [fz_none hS2D]; exact d2)) ra.unhide) q3
end MP

set_option Elab.async false
set_option linter.all false
set_option maxRecDepth 100000
set_option maxHeartbeats 4000000
/-! MP7: the check of an expression's text against its core, and what it is worth. -/
namespace MP
open PySem PySem.Spec PyProof.Rows L2

structure Gv where
  fns : List (Str × Nat)
  glb : List (Str × Const)
  /-- the law's own call: nothing is being shown -/
  rp : Bool := false
/-- where a piece of text stands: its scope, and (in a comprehension's block) the scope as written -/
structure Sk where
  sc : Scope
  raw : Option Scope
structure CK where
  e : Sk → Expr → Bool
  es : Sk → List Expr → Bool := fun _ _ => false
  o : Sk → Option Expr → Bool := fun _ _ => false
  c : Sk → List Expr → Bool := fun _ _ => false
  g : Sk → Expr → Bool := fun _ _ => false
  gs : Sk → List Expr → Bool := fun _ _ => false
  i : Sk → Expr → Expr → Bool := fun _ _ _ => false
def noX : Sk → Expr → Bool := fun _ _ => false
def ckE (e : Sk → Expr → Bool) : CK := { e := e, o := fun k oe => match oe with | some x => e k x | none => false }
def ckT (e : Sk → Expr → Bool) : CK := { e := e }
def notStar : Expr → Bool | .Starred .. => false | _ => true
def notCall0 : Expr → Bool | .Call (.Name _ _) [] [] _ => false | _ => true
def notSlice : Expr → Bool | .Slice .. => false | _ => true
def notSet : Expr → Bool | .Set .. => false | _ => true
/-- truth is asked plainly -/
def dfltT : Expr → Bool | .UnaryOp .Not _ _ => false | .BoolOp .. => false | .IfExp .. => false | .Compare .. => false | _ => true
def visC (sc : Scope) (x : Str) : Bool := match sc.names.lookup x with | some .local => true | some .cell => true | some .free => true | _ => false
def glC (sc : Scope) (x : Str) : Bool := match sc.names.lookup x with | some .globalImplicit => true | _ => false
/-- a name that may be stored -/
def stoC (k : Sk) (x : Str) : Bool := match k.sc.names.lookup x with
  | some .local => true
  | some .cell => (match k.raw with | none => true | some r => (match r.names.lookup x with | some .cell => true | _ => false))
  | _ => false
def okN (x : Str) : Bool := !(x == ("__debug__" : Str)) && !(x == ("__classdict__" : Str)) && !(x == ("__name__" : Str))
/-- keys and values of a display by turns -/
def altE : List (Option Expr) → List Expr → Option (List Expr)
  | [], [] => some []
  | some k :: ks, v :: vs => (altE ks vs).map fun r => k :: v :: r
  | _, _ => none
def als : CE → List Nat
  | .tnm i => [i]
  | .ttup ts => als ts
  | .cons a as => als a ++ als as
  | _ => []
def ck (G : Gv) (N : List Str) (n : Nat) : CE → CK
  | .nil => { e := noX, es := fun _ es => es.isEmpty, o := fun _ oe => oe.isNone, c := fun _ cs => cs.isEmpty, gs := fun _ ts => ts.isEmpty }
  | .cons a as => {
      e := noX
      es := fun k es => match es with | x :: r => notStar x && (ck G N n a).e k x && (ck G N n as).es k r | [] => false
      c := fun k cs => match cs with | [x] => (ck G N n a).e k x | _ => false
      gs := fun k ts => match ts with | x :: r => notStar x && (ck G N n a).g k x && (ck G N n as).gs k r | [] => false }
  | .var i => ckE fun k e => match e with | .Name x _ => decide (N[i]? = some x) && visC k.sc x && okN x | _ => false
  | .cst c => ckE fun _ e => match e with | .Constant c' _ _ => decide (c' = c) && (cstW c).isSome | _ => false
  | .glb x c => ckE fun k e => match e with | .Name y _ => decide (y = x) && glC k.sc x && okN x && decide ((x, c) ∈ G.glb) | _ => false
  | .bin _ op a b => ckE fun k e => match e with | .BinOp l o r _ => decide (o = op.op) && (ck G N n a).e k l && (ck G N n b).e k r | _ => false
  | .neg a => ckE fun k e => match e with | .UnaryOp .USub l _ => (ck G N n a).e k l | _ => false
  | .nt a => ckT fun k e => match e with | .UnaryOp .Not l _ => (ck G N n a).e k l | _ => false
  | .cmp op a b => ckT fun k e => match e with | .Compare l [o] [r] _ => decide (o = op) && notSet r && (ck G N n a).e k l && (ck G N n b).e k r | _ => false
  | .chain o1 o2 a b c => ckT fun k e => match e with | .Compare l [p, q] [m, r] _ => decide (p = o1) && decide (q = o2) && notSet r && notSet m && (ck G N n a).e k l && (ck G N n b).e k m && (ck G N n c).e k r | _ => false
  | .an as => ckT fun k e => match e with | .BoolOp .And es _ => !es.isEmpty && (ck G N n as).es k es | _ => false
  | .or as => ckT fun k e => match e with | .BoolOp .Or es _ => !es.isEmpty && (ck G N n as).es k es | _ => false
  | .ife t a b => ckT fun k e => match e with | .IfExp c x y _ => (ck G N n t).e k c && (ck G N n a).e k x && (ck G N n b).e k y | _ => false
  | .call f as => ckE fun k e => match e with
    | .Call (.Name x _) es [] _ => decide (G.fns[f]? = some (x, es.length)) && decide (f < n) && glC k.sc x && okN x && (ck G N n as).es k es
    | _ => false
  | .blt b _ as => ckE fun k e => match e with
    | .Call (.Name x _) es [] _ => decide (x = b.nm) && !es.isEmpty && glC k.sc x && (ck G N n as).es k es
    | _ => false
  | .mth m o as => ckE fun k e => match e with
    | .Call (.Attribute x a apos) es [] cpos => decide (a = m.nm) && (apos.endLine == cpos.line) && decide (es.length < 30) && notCall0 x && (ck G N n o).e k x && (ck G N n as).es k es
    | _ => false
  | .idx a b => ckE fun k e => match e with | .Subscript v s _ => notSlice s && (ck G N n a).e k v && (ck G N n b).e k s | _ => false
  | .slc _ a lo hi => ckE fun k e => match e with | .Subscript v (.Slice l u none _) _ => (ck G N n a).e k v && (ck G N n lo).o k l && (ck G N n hi).o k u | _ => false
  | .rev _ a => ckE fun k e => match e with | .Subscript v (.Slice none none (some (.UnaryOp .USub (.Constant (.int 1) _ _) _)) _) _ => (ck G N n a).e k v | _ => false
  | .tup as => ckE fun k e => match e with | .Tuple es _ _ => (ck G N n as).es k es | _ => false
  | .lst _ as => ckE fun k e => match e with | .List es _ => (ck G N n as).es k es | _ => false
  | .dnew _ => ckE fun _ e => match e with | .Dict [] [] _ => true | _ => false
  | .dct as => ckE fun k e => match e with
    | .Dict ks vs _ => (match altE ks vs with | some es => (ck G N n as).es k es && decide (ks.length ≤ 15) && !ks.isEmpty | none => false)
    | _ => false
  | .lc _ own tg it cond elt => ckE fun k e => match e with
    | .ListComp x [⟨t, i, ifs, 0⟩] scope _ => blkC N k.sc scope own && notSet i && (als tg).all (fun j => (own.map (·.2)).contains j) && (ck G N n it).i k t i &&
        (ck G N n tg).g ⟨relS scope k.sc, some scope⟩ t && (ck G N n cond).c ⟨relS scope k.sc, some scope⟩ ifs && (ck G N n elt).e ⟨relS scope k.sc, some scope⟩ x
    | _ => false
  | .frz a => ckE fun k e => dfltT e && (ck G N n a).e k e
  | .lrg _ a => ckE fun k e => match e with
    | .Call (.Name x _) [.Call (.Name y _) [z] [] _] [] _ => decide (x = ("list" : Str)) && glC k.sc x && decide (y = ("range" : Str)) && glC k.sc y && notStar z && (ck G N n a).e k z
    | _ => false
  | .lzip _ a b => ckE fun k e => match e with
    | .Call (.Name x _) [.Call (.Name y _) [z, w] [] _] [] _ => decide (x = ("list" : Str)) && glC k.sc x && decide (y = ("zip" : Str)) && glC k.sc y && notStar z && notStar w && (ck G N n a).e k z && (ck G N n b).e k w
    | _ => false
  | .stp _ a s => ckE fun k e => match e with | .Subscript v (.Slice none none (some t) _) _ => (ck G N n a).e k v && (ck G N n s).e k t | _ => false
  | .sset _ a => ckE fun k e => match e with
    | .Call (.Name x _) [.Call (.Name y _) [z] [] _] [] _ => decide (x = ("sorted" : Str)) && glC k.sc x && decide (y = ("set" : Str)) && glC k.sc y && notStar z && (ck G N n a).e k z
    | _ => false
  | .rpr a => ckE fun k e => match e with
    | .Call (.Name x _) [z] [] _ => G.rp && decide (x = ("repr" : Str)) && glC k.sc x && notStar z && (ck G N n a).e k z
    | _ => false
  | .isi a t => ckE fun k e => match e with
    | .Call (.Name x _) [y, .Name z _] [] _ => decide (x = ("isinstance" : Str)) && glC k.sc x && decide (z = (t.nm : Str)) && glC k.sc z && decide (t ≠ .non) && notStar y && (ck G N n a).e k y
    | _ => false
  | .lset a => ckE fun k e => match e with
    | .Call (.Name x _) [.Call (.Name y _) [z] [] _] [] _ => decide (x = ("len" : Str)) && glC k.sc x && decide (y = ("set" : Str)) && glC k.sc y && notStar z && (ck G N n a).e k z
    | _ => false
  | .lvals _ a => ckE fun k e => match e with
    | .Call (.Name x _) [.Call (.Attribute z y apos) [] [] cpos] [] _ => decide (x = ("list" : Str)) && glC k.sc x && decide (y = ("values" : Str)) && (apos.endLine == cpos.line) && notCall0 z && (ck G N n a).e k z
    | _ => false
  | .bck a lo st => ckE fun k e => match e with | .Subscript v (.Slice (some l) none (some t) _) _ => (ck G N n a).e k v && (ck G N n lo).e k l && (ck G N n st).e k t | _ => false
  | .lck a => ckE fun k e => match e with | .ListComp .. => (ck G N n a).e k e | _ => false
  | .tnm i => { e := noX, g := fun k e => match e with | .Name x _ => decide (N[i]? = some x) && stoC k x && okN x | _ => false }
  | .ttup ts => { e := noX, g := fun k e => match e with | .Tuple es _ _ => (ck G N n ts).gs k es | _ => false }
  | .tsub o i => { e := noX, g := fun k e => match e with | .Subscript x y _ => notSlice y && (ck G N n o).e k x && (ck G N n i).e k y | _ => false }
  | .iseq a => { e := noX, i := fun k _ e => notSet e && (ck G N n a).e k e }
  | .irng1 a => { e := noX, i := fun k _ e => match e with
    | .Call (.Name x _) [y] [] _ => decide (x = ("range" : Str)) && glC k.sc x && notStar y && (ck G N n a).e k y
    | _ => false }
  | .irng2 a b => { e := noX, i := fun k _ e => match e with
    | .Call (.Name x _) [y, z] [] _ => decide (x = ("range" : Str)) && glC k.sc x && notStar y && notStar z && (ck G N n a).e k y && (ck G N n b).e k z
    | _ => false }
  | .irng3 a b c => { e := noX, i := fun k _ e => match e with
    | .Call (.Name x _) [y, z, w] [] _ => decide (x = ("range" : Str)) && glC k.sc x && notStar y && notStar z && notStar w && (ck G N n a).e k y && (ck G N n b).e k z && (ck G N n c).e k w
    | _ => false }
  | .izip a b => { e := noX, i := fun k t e => match t, e with
    | .Tuple _ _ _, .Call (.Name x _) [l, r] [] _ => decide (x = ("zip" : Str)) && glC k.sc x && notStar l && notStar r && (ck G N n a).e k l && (ck G N n b).e k r
    | _, _ => false }
  | .ienm a => { e := noX, i := fun k t e => match t, e with
    | .Tuple _ _ _, .Call (.Name x _) [l] [] _ => decide (x = ("enumerate" : Str)) && glC k.sc x && notStar l && (ck G N n a).e k l
    | _, _ => false }
  | .ikeys a => { e := noX, i := fun k _ e => notSet e && (ck G N n a).e k e }

/-! ### a def's promise, by plain values -/
abbrev Spec := List W → Sto → WK → XC → Prop
def spOf (K : PySem.W.Frag) (sp : Spec) : Sp := fun vs H Q E => ∃ h ws S Qw Xw, RepL ⟨K, h⟩ (fz S H) ws vs ∧ StoOk ⟨K, h⟩ S H ∧ sp ws S Qw Xw ∧
  (∀ w S' v H', StoOk ⟨K, h⟩ S' H' → Same (fz S H) (fz S' H') → Rep ⟨K, h⟩ (fz S' H') w v → Qw w S' → Q v H') ∧ XCk ⟨K, h⟩ E S H Xw
/-- what the module has, for the context's sake -/
structure GOk (P : Program) (w : World) (K : PySem.W.Frag) (mg : Str → Option Value) (base : Heap) (CX : CXT) (G : Gv) (Φ : Nat → Spec) (n : Nat) : Prop where
  fns : ∀ i x m, G.fns[i]? = some (x, m) → i < n → ∃ f fd ps, mg x = some (.ref f) ∧ PySem.W.keepIn K (.ref f) = true ∧ ps.length = m ∧ Binds K fd ps [] ∧ FnOk P w K mg base CX (i + 1) f fd ps (spOf K (Φ i))
  blt : ∀ b : Blt, mg b.nm = none
  more : mg "range" = none ∧ mg "zip" = none ∧ mg "enumerate" = none ∧ mg "isinstance" = none ∧ mg "set" = none ∧ mg "sorted" = none ∧ mg "dict" = none ∧ mg "reversed" = none ∧ mg "bool" = none
  glb : ∀ x c, (x, c) ∈ G.glb → ∃ u v w', cstW c = some w' ∧ mg x = some u ∧ RelV v u ∧ ∀ Kh F, Rep Kh F w' v
  e0 : ∀ X : Cx, X.prog = P → X.w = w → ∀ σ, PassesAt CX X σ E0
structure XOk (CX : CXT) (G : Gv) (Φ : Nat → Spec) (n : Nat) (E : L2.St → XK) (k : Sk) (X : Cx) : Prop where
  g : GOk X.prog X.w X.K X.mg X.base CX G Φ n
  calm : X.calm = true
  nd : X.N.Nodup
  room : Room n X.A
  gd : G.rp = true → X.A.guards = some []
  rpn : G.rp = true → X.mg "repr" = none
  sc : X.env.scope = k.sc
  fn : ∀ x, (∀ r, k.raw = some r → r.names.lookup x = some .cell) → X.fn x = true
  pass : ∀ σ, PassesAt CX X σ (E σ)
  own : PassesOwn (model X.prog X.w) X.A X.env X.xe
section
variable {CX : CXT} {G : Gv} {Φ : Nat → Spec} {n : Nat} {E : L2.St → XK} {k : Sk} {X : Cx}

theorem vis_of (x : XOk CX G Φ n E k X) {y : Str} (h : visC k.sc y = true) : Vis X.env.scope y := by
  rw [x.sc]
  unfold visC at h
  unfold Vis
  split at h <;> simp_all
theorem gl_of (x : XOk CX G Φ n E k X) {y : Str} (h : glC k.sc y = true) : Gl X y := by
  show X.env.scope.names.lookup y = _
  rw [x.sc]
  unfold glC at h
  split at h <;> simp_all
theorem loc_of (x : XOk CX G Φ n E k X) {y : Str} (h : stoC k y = true) : L2.Loc X.env.scope y ∧ (X.fn y = true ∨ X.env.scope.names.lookup y = some .local) := by
  rw [x.sc]
  unfold stoC at h
  unfold L2.Loc
  split at h
  · rename_i e
    exact ⟨.inl e, .inr e⟩
  · rename_i e
    refine ⟨.inr e, .inl (x.fn y fun r hr => ?_)⟩
    rw [hr] at h
    simp only at h
    split at h
    · assumption
    · cases h
  · cases h
theorem ok_dbg {y : Str} (h : okN y = true) : (y == ("__debug__" : Str)) = false ∧ (y == ("__classdict__" : Str)) = false ∧ y ≠ "__name__" := by
  unfold okN at h
  simp only [Bool.and_eq_true, Bool.not_eq_true'] at h
  refine ⟨h.1.1, h.1.2, fun e => ?_⟩
  have := h.2
  rw [e] at this
  simp at this
theorem units_of {n : Nat} {A : Around} (r : Room n A) : A.units + 65 < cLine := by have := r.un; omega
end
end MP

set_option Elab.async false
set_option linter.all false
set_option maxRecDepth 100000
set_option maxHeartbeats 4000000
/-! MP8: expressions: what is checked runs as the core says. -/
namespace MP
open PySem PySem.Spec PyProof.Rows L2

theorem star_of {e : Expr} {es : List Expr} {env : PySem.Env} (h : notStar e = true) : starEach (e :: es) env = (false, eval e env) :: starEach es env := by
  cases e <;> first | rfl | cases h
theorem asg_of {e : Expr} {es : List Expr} {env : PySem.Env} (h : notStar e = true) : assignEach (e :: es) env = (false, assign e env) :: assignEach es env := by
  cases e <;> first | rfl | cases h
theorem fold_of {e : Expr} {env : PySem.Env} (h : notSet e = true) : ∀ x, foldedSetIterable e env x = pure x := by
  intro x
  cases e <;> first | rfl | cases h
theorem mark_of {op : CmpOp} {e : Expr} (h : notSet e = true) : behindInMarks op e = false := by
  cases e <;> first | rfl | cases h
theorem plain_of {s : Expr} (h : notSlice s = true) : ∀ o i, subscripted s false o i = operate [o, i] (getItem o i) := by
  intro o i
  cases s <;> first | rfl | cases h
theorem base_of {o : Expr} {m : Str} {env : PySem.Env} {wh : Sem Value} (h : notCall0 o = true) : attributeBase o m env wh = wh := by
  unfold attributeBase
  split
  · cases h
  · rfl
theorem true_of {e : Expr} {env : PySem.Env} (h : dfltT e = true) : ∀ whole, isTrue e env whole = (do let v ← whole; standAt e.pos; holding [v] (truthy v)) := by
  intro whole
  cases e <;> first | rfl | (cases h) | skip
  rename_i op _ _
  cases op <;> first | rfl | cases h
theorem truW_v {K : KH} {S : Sto} {H : Hp} {x : W} {v : V} {b : Bool} (k : StoOk K S H) (r : Rep K (fz S H) x v) (h : truW S x = some b) : TruV K.K v H b := by
  cases x with
  | non => cases r; cases h; rfl
  | bl c => cases r; cases h; rfl
  | int i => cases r; cases h; rfl
  | str z =>
    cases r
    have h' : (if z.length ≤ sizeLine then some ((z.length : Int) != 0) else none) = some b := h
    by_cases hl : z.length ≤ sizeLine
    · rw [if_pos hl] at h'
      cases h'
      exact ⟨hl, rfl⟩
    · rw [if_neg hl] at h'
      cases h'
  | tup ws =>
    cases h
    obtain ⟨a, vs, rfl, ha, ra⟩ := tup_sq r
    exact .inr (.inl ⟨vs, .of ha, by cases ra <;> rfl⟩)
  | lst ws =>
    cases h
    obtain ⟨a, vs, rfl, ha, ra⟩ := rdL_sq k r rfl
    exact .inl ⟨vs, ha.sq, by cases ra <;> rfl⟩
  | ref a =>
    cases r
    cases e : S a with
    | none => simp [truW, e] at h
    | some o =>
      simp only [truW, e, Option.bind_some] at h
      obtain ⟨u, hu, q⟩ := k.at' a o e
      cases o with
      | lst ws =>
        cases h
        obtain ⟨vs, rfl, ra⟩ := q
        exact .inl ⟨vs, .of hu, by cases ra <;> rfl⟩
      | dk kvs =>
        cases h
        obtain ⟨vs, rfl, ra⟩ := q
        exact .inr (.inr ⟨vs, hu, by cases ra <;> rfl⟩)
      | _ => cases h
theorem cst_v {Kh : KH} {F : Hp} {c : Const} {w : W} (h : cstW c = some w) : ∃ v, Rep Kh F w v ∧ ∀ (X : Cx) j pos, PE X (.Constant c j pos) (tC v) := by
  cases c with
  | none => cases h; exact ⟨_, .non, fun _ _ _ => pe_non⟩
  | bool b => cases h; exact ⟨_, .bl b, fun _ _ _ => pe_bl⟩
  | int i => cases h; exact ⟨_, .int i, fun _ _ _ => pe_int⟩
  | str x => cases h; exact ⟨_, .str x, fun _ _ _ => pe_str⟩
  | _ => cases h
theorem blt_okN : ∀ b : Blt, okN b.nm = true := by intro b; cases b <;> decide +kernel
theorem blt_boot : ∀ b : Blt, bootBuiltins b.nm = some b.val := by intro b; cases b <;> decide +kernel

section
variable {CX : CXT} {G : Gv} {Φ : Nat → Spec} {n : Nat}
/-- what a piece of the core is worth -/
structure Snd (CX : CXT) (G : Gv) (Φ : Nat → Spec) (n : Nat) (c : CE) : Prop where
  e : ∀ {N : List Str} {E : L2.St → XK} {k : Sk} {X : Cx} {x : Expr}, XOk CX G Φ n E k X → X.N = N → (ck G N n c).e k x = true → PE X x (tOf ⟨X.K, E⟩ (wp Φ c).e)
  t : ∀ {N : List Str} {E : L2.St → XK} {k : Sk} {X : Cx} {x : Expr}, XOk CX G Φ n E k X → X.N = N → (ck G N n c).e k x = true → PT X x (tOfT ⟨X.K, E⟩ (wp Φ c).t)
  es : ∀ {N : List Str} {E : L2.St → XK} {k : Sk} {X : Cx} {xs : List Expr}, XOk CX G Φ n E k X → X.N = N → (ck G N n c).es k xs = true → PA X xs (tOfA ⟨X.K, E⟩ (wp Φ c).es)
  an : ∀ {N : List Str} {E : L2.St → XK} {k : Sk} {X : Cx} {xs : List Expr} {pos : Pos}, XOk CX G Φ n E k X → X.N = N → (ck G N n c).es k xs = true → xs ≠ [] → PE X (.BoolOp .And xs pos) (tOf ⟨X.K, E⟩ (wp Φ c).an)
  or : ∀ {N : List Str} {E : L2.St → XK} {k : Sk} {X : Cx} {xs : List Expr} {pos : Pos}, XOk CX G Φ n E k X → X.N = N → (ck G N n c).es k xs = true → xs ≠ [] → PE X (.BoolOp .Or xs pos) (tOf ⟨X.K, E⟩ (wp Φ c).or)
  ant : ∀ {N : List Str} {E : L2.St → XK} {k : Sk} {X : Cx} {xs : List Expr} {pos : Pos}, XOk CX G Φ n E k X → X.N = N → (ck G N n c).es k xs = true → xs ≠ [] → PW X (.BoolOp .And xs pos) (tOfT ⟨X.K, E⟩ (wp Φ c).ant)
  ort : ∀ {N : List Str} {E : L2.St → XK} {k : Sk} {X : Cx} {xs : List Expr} {pos : Pos}, XOk CX G Φ n E k X → X.N = N → (ck G N n c).es k xs = true → xs ≠ [] → PW X (.BoolOp .Or xs pos) (tOfT ⟨X.K, E⟩ (wp Φ c).ort)
  ns : ∀ {N : List Str} {k : Sk} {xs : List Expr}, (ck G N n c).es k xs = true → xs.all notStar = true
  more : ∀ {N : List Str} {k : Sk} {xs : List Expr}, (ck G N n c).es k xs = true → ((wp Φ c).more = true ↔ xs ≠ [])
  o : ∀ {N : List Str} {E : L2.St → XK} {k : Sk} {X : Cx} {x : Option Expr}, XOk CX G Φ n E k X → X.N = N → (ck G N n c).o k x = true → PO X x (tOfO ⟨X.K, E⟩ (wp Φ c).o)
  cc : ∀ {N : List Str} {E : L2.St → XK} {k : Sk} {X : Cx} {xs : List Expr}, XOk CX G Φ n E k X → X.N = N → (ck G N n c).c k xs = true → PTs X xs (tOfT ⟨X.K, E⟩ fun ρ S Q _ => (wp Φ c).c ρ S Q)
  g : ∀ {N : List Str} {E : L2.St → XK} {k : Sk} {X : Cx} {x : Expr}, XOk CX G Φ n E k X → X.N = N → (ck G N n c).g k x = true → PG X x (tOfG ⟨X.K, E⟩ (als c) (wp Φ c).g)
  gs : ∀ {N : List Str} {E : L2.St → XK} {k : Sk} {X : Cx} {xs : List Expr}, XOk CX G Φ n E k X → X.N = N → (ck G N n c).gs k xs = true → PGs X xs (tOfGs ⟨X.K, E⟩ (als c) (wp Φ c).gs) ∧
    (assignEach xs X.env).length = xs.length ∧ (assignEach xs X.env).findIdx? (·.1) = none
  i : ∀ {N : List Str} {E : L2.St → XK} {k : Sk} {X : Cx} {t x : Expr}, XOk CX G Φ n E k X → X.N = N → (ck G N n c).i k t x = true → PI X t x (tOfI ⟨X.K, E⟩ (wp Φ c).i)
/-- an expression whose truth is asked plainly -/
theorem sndE {c : CE} (e : WE) (f : List Str → Sk → Expr → Bool) (hw : wp Φ c = rdE e) (hc : ∀ N, ck G N n c = ckE (f N)) (hd : ∀ N k x, f N k x = true → dfltT x = true)
    (h : ∀ {N : List Str} {E : L2.St → XK} {k : Sk} {X : Cx} {x : Expr}, XOk CX G Φ n E k X → X.N = N → f N k x = true → PE X x (tOf ⟨X.K, E⟩ e)) : Snd CX G Φ n c := by
  have he : ∀ {N : List Str} {E : L2.St → XK} {k : Sk} {X : Cx} {x : Expr}, XOk CX G Φ n E k X → X.N = N → (ck G N n c).e k x = true → PE X x (tOf ⟨X.K, E⟩ (wp Φ c).e) := fun {N E k X x} x' hN hx => by
    rw [hc] at hx
    rw [hw]
    exact h x' hN hx
  refine ⟨he, fun {N E k X x} x' hN hx => ?_, fun {N E k X x} x' hN hx => ?_, fun {N E k X x p} x' hN hx => ?_, fun {N E k X x p} x' hN hx => ?_, fun {N E k X x p} x' hN hx => ?_, fun {N E k X x p} x' hN hx => ?_,
    fun {N k x} hx => ?_, fun {N k x} hx => ?_, fun {N E k X x} x' hN hx => ?_, fun {N E k X x} x' hN hx => ?_, fun {N E k X x} x' hN hx => ?_, fun {N E k X x} x' hN hx => ?_, fun {N E k X t x} x' hN hx => ?_⟩
  · have h1 := he x' hN hx
    rw [hc] at hx
    rw [hw] at h1 ⊢
    refine PT.imp (pt_truth h1 (true_of (hd _ _ _ hx))) fun σ H Q q => ?_
    obtain ⟨hh, ρ, S, Q0, Y, s, q, kv, kx⟩ := q
    refine ⟨hh, ρ, S, _, Y, s, q, fun w S1 v H1 s1 e1 r1 q1 => ?_, kx⟩
    obtain ⟨b, hb, q1⟩ := q1
    exact ⟨b, truW_v s1.sto r1 hb, kv b S1 H1 s1 e1 q1⟩
  · rw [hc] at hx; cases hx
  · rw [hc] at hx; cases hx
  · rw [hc] at hx; cases hx
  · rw [hc] at hx; cases hx
  · rw [hc] at hx; cases hx
  · rw [hc] at hx; cases hx
  · rw [hc] at hx; cases hx
  · rw [hc] at hx
    cases x with
    | none => cases hx
    | some x =>
      rw [hw]
      refine PO.imp (po_some (h x' hN hx)) fun σ H Q q => ?_
      obtain ⟨hh, ρ, S, Q0, Y, s, q, kv, kx⟩ := q
      refine ⟨hh, ρ, S, _, Y, s, q, fun w S1 v H1 s1 e1 r1 q1 => ?_, kx⟩
      obtain ⟨i, rfl, q1⟩ := q1
      cases r1
      exact ⟨i, rfl, kv _ S1 H1 s1 e1 q1⟩
  · rw [hc] at hx; cases hx
  · rw [hc] at hx; cases hx
  · rw [hc] at hx; cases hx
  · rw [hc] at hx; cases hx
/-- an expression that has a test of its own -/
theorem sndT {c : CE} (e : WE) (t : Env → Sto → (Bool → Sto → Prop) → XC → Prop) (f : List Str → Sk → Expr → Bool) (hw : wp Φ c = rdT e t) (hc : ∀ N, ck G N n c = ckT (f N))
    (h : ∀ {N : List Str} {E : L2.St → XK} {k : Sk} {X : Cx} {x : Expr}, XOk CX G Φ n E k X → X.N = N → f N k x = true → PE X x (tOf ⟨X.K, E⟩ e) ∧ PT X x (tOfT ⟨X.K, E⟩ t)) : Snd CX G Φ n c := by
  refine ⟨fun {N E k X x} x' hN hx => ?_, fun {N E k X x} x' hN hx => ?_, fun {N E k X x} x' hN hx => ?_, fun {N E k X x p} x' hN hx => ?_, fun {N E k X x p} x' hN hx => ?_, fun {N E k X x p} x' hN hx => ?_, fun {N E k X x p} x' hN hx => ?_,
    fun {N k x} hx => ?_, fun {N k x} hx => ?_, fun {N E k X x} x' hN hx => ?_, fun {N E k X x} x' hN hx => ?_, fun {N E k X x} x' hN hx => ?_, fun {N E k X x} x' hN hx => ?_, fun {N E k X t x} x' hN hx => ?_⟩
  · rw [hc] at hx
    rw [hw]
    exact (h x' hN hx).1
  · rw [hc] at hx
    rw [hw]
    exact (h x' hN hx).2
  all_goals (rw [hc] at hx; cases hx)
/-- a piece that is a target, or what is walked, alone -/
theorem sndO {c : CE} (he : ∀ N k x, (ck G N n c).e k x = false) (hes : ∀ N k x, (ck G N n c).es k x = false) (ho : ∀ N k x, (ck G N n c).o k x = false) (hcc : ∀ N k x, (ck G N n c).c k x = false) (hgs : ∀ N k x, (ck G N n c).gs k x = false)
    (g : ∀ {N : List Str} {E : L2.St → XK} {k : Sk} {X : Cx} {x : Expr}, XOk CX G Φ n E k X → X.N = N → (ck G N n c).g k x = true → PG X x (tOfG ⟨X.K, E⟩ (als c) (wp Φ c).g))
    (i : ∀ {N : List Str} {E : L2.St → XK} {k : Sk} {X : Cx} {t x : Expr}, XOk CX G Φ n E k X → X.N = N → (ck G N n c).i k t x = true → PI X t x (tOfI ⟨X.K, E⟩ (wp Φ c).i)) : Snd CX G Φ n c := by
  refine ⟨fun {N E k X x} x' hN hx => ?_, fun {N E k X x} x' hN hx => ?_, fun {N E k X x} x' hN hx => ?_, fun {N E k X x p} x' hN hx => ?_, fun {N E k X x p} x' hN hx => ?_, fun {N E k X x p} x' hN hx => ?_, fun {N E k X x p} x' hN hx => ?_,
    fun {N k x} hx => ?_, fun {N k x} hx => ?_, fun {N E k X x} x' hN hx => ?_, fun {N E k X x} x' hN hx => ?_, g, fun {N E k X x} x' hN hx => ?_, i⟩
  · rw [he] at hx; cases hx
  · rw [he] at hx; cases hx
  · rw [hes] at hx; cases hx
  · rw [hes] at hx; cases hx
  · rw [hes] at hx; cases hx
  · rw [hes] at hx; cases hx
  · rw [hes] at hx; cases hx
  · rw [hes] at hx; cases hx
  · rw [hes] at hx; cases hx
  · rw [ho] at hx; cases hx
  · rw [hcc] at hx; cases hx
  · rw [hgs] at hx; cases hx

/-! ### the pieces -/
theorem snd_var (i : Nat) : Snd CX G Φ n (.var i) := by
  refine sndE _ _ rfl (fun N => rfl) (fun N k x hx => by cases x <;> first | rfl | cases hx) fun {N E k X x} o hN hx => ?_
  cases x with
  | Name y p =>
    simp only [Bool.and_eq_true] at hx
    obtain ⟨⟨h1, h2⟩, h3⟩ := hx
    have d := ok_dbg h3
    refine PE.imp (pe_var (i := i) (by rw [hN]; exact of_decide_eq_true h1) (vis_of o h2) d.1 d.2.1) fun σ H Q q => ?_
    obtain ⟨hh, ρ, S, Q0, Y, s, ⟨w, hw, q⟩, kv, kx⟩ := q
    obtain ⟨v, hv, r⟩ := s.var i w hw
    exact ⟨v, hv, kv.give s r q⟩
  | _ => cases hx
theorem snd_cst (c : Const) : Snd CX G Φ n (.cst c) := by
  refine sndE _ _ rfl (fun N => rfl) (fun N k x hx => by cases x <;> first | rfl | cases hx) fun {N E k X x} o hN hx => ?_
  cases x with
  | Constant c' j p =>
    simp only [Bool.and_eq_true] at hx
    obtain ⟨h1, h2⟩ := hx
    obtain rfl := of_decide_eq_true h1
    obtain ⟨w, hw⟩ := Option.isSome_iff_exists.mp h2
    obtain ⟨v, hv⟩ : ∃ v, ∀ (Kh : KH) (F : Hp), Rep Kh F w v ∧ ∀ (X : Cx) j pos, PE X (.Constant c' j pos) (tC v) := by
      cases c' <;> first
        | (cases hw; exact ⟨_, fun _ _ => ⟨.non, fun _ _ _ => pe_non⟩⟩)
        | (cases hw; exact ⟨_, fun _ _ => ⟨.bl _, fun _ _ _ => pe_bl⟩⟩)
        | (cases hw; exact ⟨_, fun _ _ => ⟨.int _, fun _ _ _ => pe_int⟩⟩)
        | (cases hw; exact ⟨_, fun _ _ => ⟨.str _, fun _ _ _ => pe_str⟩⟩)
        | cases hw
    refine PE.imp ((hv ⟨X.K, fun _ => false⟩ (fun _ => none)).2 X j p) fun σ H Q q => ?_
    obtain ⟨hh, ρ, S, Q0, Y, s, ⟨w', hw', q⟩, kv, kx⟩ := q
    rw [hw] at hw'
    cases hw'
    exact kv.give s (hv _ _).1 q
  | _ => cases hx
theorem snd_glb (x : Str) (c : Const) : Snd CX G Φ n (.glb x c) := by
  refine sndE _ _ rfl (fun N => rfl) (fun N k x hx => by cases x <;> first | rfl | cases hx) fun {N E k X z} o hN hx => ?_
  cases z with
  | Name y p =>
    simp only [Bool.and_eq_true] at hx
    obtain ⟨⟨⟨h1, h2⟩, h3⟩, h4⟩ := hx
    obtain rfl := of_decide_eq_true h1
    obtain ⟨u, v, w, hw, hm, hr, rep⟩ := o.g.glb y c (of_decide_eq_true h4)
    refine PE.imp (pe_glob (gl_of o h2) hm hr (ok_dbg h3).1) fun σ H Q q => ?_
    obtain ⟨hh, ρ, S, Q0, Y, s, ⟨w', hw', q⟩, kv, kx⟩ := q
    rw [hw] at hw'
    cases hw'
    exact kv.give s (rep _ _) q
  | _ => cases hx
theorem snd_bin {live : Bool} {op : Bop} {a b : CE} (ha : Snd CX G Φ n a) (hb : Snd CX G Φ n b) : Snd CX G Φ n (.bin live op a b) := by
  refine sndE _ _ rfl (fun N => rfl) (fun N k x hx => by cases x <;> first | rfl | cases hx) fun {N E k X x} o hN hx => ?_
  cases x with
  | BinOp l p r pos =>
    simp only [Bool.and_eq_true] at hx
    obtain ⟨⟨h1, h2⟩, h3⟩ := hx
    obtain rfl := of_decide_eq_true h1
    exact PE.imp (pe_op (op_bop op) (ha.e o hN h2) (hb.e o hN h3)) fun σ H Q q => tOf_op (fun h => ops_bop op) q
  | _ => cases hx
theorem snd_neg {a : CE} (ha : Snd CX G Φ n a) : Snd CX G Φ n (.neg a) := by
  refine sndE _ (fun N k e => match e with | .UnaryOp .USub l _ => (ck G N n a).e k l | _ => false) rfl (fun N => rfl) (fun N k x hx => ?_) fun {N E k X x} o hN hx => ?_
  · split at hx
    · rfl
    · cases hx
  · split at hx
    · refine PE.imp (pe_un un_neg (ha.e o hN hx)) fun σ H Q q => ?_
      obtain ⟨hh, ρ, S, Q0, Y, s, q, kv, kx⟩ := q
      refine ⟨hh, ρ, S, _, Y, s, q, fun w S1 v H1 s1 e1 r1 q1 => ?_, kx⟩
      obtain ⟨i, rfl, q1⟩ := q1
      cases r1
      exact ⟨i, rfl, (kv.to e1).give s1 (.int _) q1⟩
    · cases hx
theorem snd_nt {a : CE} (ha : Snd CX G Φ n a) : Snd CX G Φ n (.nt a) := by
  refine sndT _ _ (fun N k e => match e with | .UnaryOp .Not l _ => (ck G N n a).e k l | _ => false) rfl (fun N => rfl) fun {N E k X x} o hN hx => ?_
  split at hx
  · refine ⟨PE.imp (pe_notT (ha.e o hN hx)) fun σ H Q q => ?_, PT.imp (pt_not (ha.t o hN hx)) fun σ H Q q => ?_⟩
    · obtain ⟨hh, ρ, S, Q0, Y, s, q, kv, kx⟩ := q
      refine ⟨hh, ρ, S, _, Y, s, q, fun w S1 v H1 s1 e1 r1 q1 => ?_, kx⟩
      obtain ⟨b, hb, q1⟩ := q1
      exact ⟨b, truW_v s1.sto r1 hb, (kv.to e1).give s1 (.bl _) q1⟩
    · obtain ⟨hh, ρ, S, Q0, Y, s, q, kv, kx⟩ := q
      exact ⟨hh, ρ, S, _, Y, s, q, fun b S1 H1 s1 e1 q1 => kv _ S1 H1 s1 e1 q1, kx⟩
  · cases hx
theorem snd_cmp {op : CmpOp} {a b : CE} (ha : Snd CX G Φ n a) (hb : Snd CX G Φ n b) : Snd CX G Φ n (.cmp op a b) := by
  refine sndT _ _ (fun N k e => match e with | .Compare l [o] [r] _ => decide (o = op) && notSet r && (ck G N n a).e k l && (ck G N n b).e k r | _ => false) rfl (fun N => rfl) fun {N E k X x} o hN hx => ?_
  split at hx
  · simp only [Bool.and_eq_true] at hx
    obtain ⟨⟨⟨h1, h2⟩, h3⟩, h4⟩ := hx
    obtain rfl := of_decide_eq_true h1
    have R := op_cmp (X := X) (units_of o.room)
    refine ⟨PE.imp (pe_cmpR (R _) (ha.e o hN h3) (hb.e o hN h4) (mark_of h2)) fun σ H Q q => ?_, PT.imp (pt_cmpR (R _) (ha.e o hN h3) (hb.e o hN h4) (mark_of h2)) fun σ H Q q => ?_⟩
    · obtain ⟨hh, ρ, S, Q0, Y, s, q, kv, kx⟩ := q
      refine ⟨hh, ρ, S, _, Y, s, q, fun x S1 vx H1 s1 e1 r1 q1 => ⟨hh, ρ, S1, _, Y, s1, q1, fun y S2 vy H2 s2 e2 r2 q2 => ?_, kx.to e1⟩, kx⟩
      exact cmps (C := (⟨X.K, E⟩ : Ct0).at hh) _ x y vx vy S2 H2 _ _ s2.sto (r1.mono e2) r2 q2 fun b q => (kv.to (e1.trans e2)).give s2 (.bl b) q
    · obtain ⟨hh, ρ, S, Q0, Y, s, q, kv, kx⟩ := q
      refine ⟨hh, ρ, S, _, Y, s, q, fun x S1 vx H1 s1 e1 r1 q1 => ⟨hh, ρ, S1, _, Y, s1, q1, fun y S2 vy H2 s2 e2 r2 q2 => ?_, kx.to e1⟩, kx⟩
      exact cmps (C := (⟨X.K, E⟩ : Ct0).at hh) _ x y vx vy S2 H2 _ _ s2.sto (r1.mono e2) r2 q2 fun b q => ⟨b, rfl, kv b S2 H2 s2 (e1.trans e2) q⟩
  · cases hx
end
end MP

set_option Elab.async false
set_option linter.all false
set_option maxRecDepth 100000
set_option maxHeartbeats 4000000
/-! MP9: expressions, further. -/
namespace MP
open PySem PySem.Spec PyProof.Rows L2

section
variable {CX : CXT} {G : Gv} {Φ : Nat → Spec} {n : Nat}
theorem marks2 {o1 o2 : CmpOp} {a b : Expr} (h : notSet b = true) : lastMarks [o1, o2] [a, b] = false := by
  show behindInMarks o2 b = false
  exact mark_of h
theorem snd_chain {o1 o2 : CmpOp} {a b d : CE} (ha : Snd CX G Φ n a) (hb : Snd CX G Φ n b) (hd : Snd CX G Φ n d) : Snd CX G Φ n (.chain o1 o2 a b d) := by
  refine sndT _ _ (fun N k e => match e with | .Compare l [p, q] [m, r] _ => decide (p = o1) && decide (q = o2) && notSet r && notSet m && (ck G N n a).e k l && (ck G N n b).e k m && (ck G N n d).e k r | _ => false) rfl (fun N => rfl) fun {N E k X x} o hN hx => ?_
  split at hx
  · simp only [Bool.and_eq_true] at hx
    obtain ⟨⟨⟨⟨⟨⟨h1, h2⟩, h3⟩, h3'⟩, h4⟩, h5⟩, h6⟩ := hx
    obtain rfl := of_decide_eq_true h1
    obtain rfl := of_decide_eq_true h2
    have R := op_cmp (X := X) (units_of o.room)
    have S := fun hh o' => cmps (C := (⟨X.K, E⟩ : Ct0).at hh) o'
    refine ⟨PE.imp (pe_chain (R _) (R _) (ha.e o hN h4) (hb.e o hN h5) (hd.e o hN h6) (marks2 h3)) fun σ H Q q => ?_, PT.imp (pt_chain (R _) (R _) (ha.e o hN h4) (hb.e o hN h5) (hd.e o hN h6) (marks2 h3)) fun σ H Q q => ?_⟩
    · obtain ⟨hh, ρ, S0, Q0, Y, s, q, kv, kx⟩ := q
      refine ⟨hh, ρ, S0, _, Y, s, q, fun x S1 vx H1 s1 e1 r1 q1 => ⟨hh, ρ, S1, _, Y, s1, q1, fun y S2 vy H2 s2 e2 r2 q2 => ?_, kx.to e1⟩, kx⟩
      have e12 := e1.trans e2
      refine S hh _ x y vx vy S2 H2 _ _ s2.sto (r1.mono e2) r2 q2 fun b q => ⟨b, rfl, ?_⟩
      cases b with
      | true =>
        rw [if_pos rfl] at q
        refine iteT ⟨hh, ρ, S2, _, Y, s2, q, fun z S3 vz H3 s3 e3 r3 q3 => ?_, kx.to e12⟩
        exact S hh _ y z vy vz S3 H3 _ _ s3.sto (r2.mono e3) r3 q3 fun b q => (kv.to (e12.trans e3)).give s3 (.bl b) q
      | false =>
        rw [if_neg Bool.false_ne_true] at q
        exact iteF ((kv.to e12).give s2 (.bl _) q)
    · obtain ⟨hh, ρ, S0, Q0, Y, s, q, kv, kx⟩ := q
      refine ⟨hh, ρ, S0, _, Y, s, q, fun x S1 vx H1 s1 e1 r1 q1 => ⟨hh, ρ, S1, _, Y, s1, q1, fun y S2 vy H2 s2 e2 r2 q2 => ?_, kx.to e1⟩, kx⟩
      have e12 := e1.trans e2
      refine S hh _ x y vx vy S2 H2 _ _ s2.sto (r1.mono e2) r2 q2 fun b q => ⟨b, rfl, ?_⟩
      cases b with
      | true =>
        rw [if_pos rfl] at q
        refine iteT ⟨hh, ρ, S2, _, Y, s2, q, fun z S3 vz H3 s3 e3 r3 q3 => ?_, kx.to e12⟩
        exact S hh _ y z vy vz S3 H3 _ _ s3.sto (r2.mono e3) r3 q3 fun b q => ⟨b, rfl, kv b S3 H3 s3 (e12.trans e3) q⟩
      | false =>
        rw [if_neg Bool.false_ne_true] at q
        exact iteF ⟨false, rfl, kv _ S2 H2 s2 e12 q⟩
  · cases hx
theorem snd_an {as : CE} (ha : Snd CX G Φ n as) : Snd CX G Φ n (.an as) := by
  refine sndT _ _ (fun N k e => match e with | .BoolOp .And es _ => !es.isEmpty && (ck G N n as).es k es | _ => false) rfl (fun N => rfl) fun {N E k X x} o hN hx => ?_
  split at hx
  · simp only [Bool.and_eq_true] at hx
    have ne : ∀ {es : List Expr}, (!es.isEmpty) = true → es ≠ [] := fun h e => by subst e; cases h
    exact ⟨ha.an o hN hx.2 (ne hx.1), (ha.ant o hN hx.2 (ne hx.1)).pt⟩
  · cases hx
theorem snd_or {as : CE} (ha : Snd CX G Φ n as) : Snd CX G Φ n (.or as) := by
  refine sndT _ _ (fun N k e => match e with | .BoolOp .Or es _ => !es.isEmpty && (ck G N n as).es k es | _ => false) rfl (fun N => rfl) fun {N E k X x} o hN hx => ?_
  split at hx
  · simp only [Bool.and_eq_true] at hx
    have ne : ∀ {es : List Expr}, (!es.isEmpty) = true → es ≠ [] := fun h e => by subst e; cases h
    exact ⟨ha.or o hN hx.2 (ne hx.1), (ha.ort o hN hx.2 (ne hx.1)).pt⟩
  · cases hx
theorem snd_frz {a : CE} (ha : Snd CX G Φ n a) : Snd CX G Φ n (.frz a) := by
  refine sndE _ _ rfl (fun N => rfl) (fun N k x hx => by simp only [Bool.and_eq_true] at hx; exact hx.1) fun {N E k X x} o hN hx => ?_
  simp only [Bool.and_eq_true] at hx
  refine PE.imp (ha.e o hN hx.2) fun σ H Q q => ?_
  obtain ⟨hh, ρ, S, Q0, Y, s, q, kv, kx⟩ := q
  refine ⟨hh, ρ, S, _, Y, s, q, fun w S1 v H1 s1 e1 r1 q1 => ?_, kx⟩
  obtain ⟨p, ws, rfl, hp, q1⟩ := q1
  cases r1
  obtain ⟨u, hu, vs, rfl, r⟩ := s1.sto.at' p _ hp
  have hf : fz (sdel S1 p) H1 p = some (.lst vs) := by rw [fz_none sdel_same]; exact hu
  have nh : (⟨X.K, hh⟩ : KH).h p = false := by
    cases e : (⟨X.K, hh⟩ : KH).h p with
    | false => rfl
    | true =>
      have := (s1.sto.hid p e).1
      rw [hp] at this; cases this
  exact kv _ _ _ _ (s1.to same_del s1.sto.del) (e1.trans same_del) (.lst nh (.inl hf) (r.mono same_del)) q1
/-! ### calls -/
theorem any_of {pos : Pos} {env : PySem.Env} : ∀ {xs : List Expr}, xs.all notStar = true → (backTo pos (starEach xs env)).any (·.1) = false
  | [], _ => rfl
  | x :: xs, h => by
    rw [List.all_cons, Bool.and_eq_true] at h
    rw [star_of h.1]
    show ((false || (backTo pos (starEach xs env)).any (·.1)) = false)
    rw [any_of h.2]
    rfl
theorem all_of {pos : Pos} {env : PySem.Env} : ∀ {xs : List Expr}, xs.all notStar = true → (backTo pos (starEach xs env)).all (fun x => !x.1) = true
  | [], _ => rfl
  | x :: xs, h => by
    rw [List.all_cons, Bool.and_eq_true] at h
    rw [star_of h.1]
    show ((true && (backTo pos (starEach xs env)).all (fun x => !x.1)) = true)
    rw [all_of h.2]
    rfl
theorem es_nil {N : List Str} {k : Sk} {as : CE} (h : (ck G N n as).es k [] = true) : as = .nil := by
  cases as <;> first | rfl | cases h
theorem snd_call {f : Nat} {as : CE} (ha : Snd CX G Φ n as) : Snd CX G Φ n (.call f as) := by
  refine sndE _ (fun N k e => match e with
    | .Call (.Name x _) es [] _ => decide (G.fns[f]? = some (x, es.length)) && decide (f < n) && glC k.sc x && okN x && (ck G N n as).es k es
    | _ => false) rfl (fun N => rfl) (fun N k x hx => ?_) fun {N E k X x} o hN hx => ?_
  · split at hx
    · rfl
    · cases hx
  · split at hx
    · rename_i y p es pos
      simp only [Bool.and_eq_true] at hx
      obtain ⟨⟨⟨⟨h1, h2⟩, h3⟩, h4⟩, h5⟩ := hx
      have hl := of_decide_eq_true h2
      obtain ⟨fa, fd, ps, hm, hk, hp, hb, F⟩ := o.g.fns f y es.length (of_decide_eq_true h1) hl
      have hr : Room (f + 1) X.A := o.room.mono hl
      have run : ∀ (σ : L2.St) (H : Hp) (Q : VK), tOf ⟨X.K, E⟩ (wp Φ (.call f as)).e σ H Q → tOfA ⟨X.K, E⟩ (wp Φ as).es σ H (fun vs H1 => spOf X.K (Φ f) vs H1 Q (E σ)) := fun σ H Q q => by
        obtain ⟨hh, ρ, S, Q0, Y, s, q, kv, kx⟩ := q
        refine ⟨hh, ρ, S, _, Y, s, q, fun ws S1 vs H1 s1 e1 r1 q1 => ?_, kx⟩
        exact ⟨hh, ws, S1, Q0, Y, r1, s1.sto, q1, fun w S2 v H2 s2 e2 r2 q2 => kv _ _ _ _ (s1.to e2 s2) (e1.trans e2) r2 q2, kx.to e1⟩
      cases es with
      | nil =>
        obtain rfl := es_nil h5
        refine ⟨fun pins s σ H Q I h => ?_⟩
        refine wpAny_Call_Name_kw (ld_glob I (gl_of o h3) hm ?_ (ok_dbg h4).1)
        obtain ⟨hh, ρ, S, Q0, Y, s, q, kv, kx⟩ := run σ H Q h
        exact PySem.W.callWith_K0 I.kIn hk (run_fnS (us := []) F hr hb (o.pass σ) I .nil (kv [] S [] H s (Same.refl _) .nil q))
      | cons e es =>
        have hs := ha.ns h5
        rw [List.all_cons, Bool.and_eq_true] at hs
        exact PE.imp (pe_callS F hr (gl_of o h3) hm hk hb o.pass (ha.es o hN h5) (ok_dbg h4).1 (star_of hs.1) (any_of hs.2)) fun σ H Q q => run σ H Q q
    · cases hx
theorem snd_blt {b : Blt} {live : Bool} {as : CE} (ha : Snd CX G Φ n as) : Snd CX G Φ n (.blt b live as) := by
  refine sndE _ (fun N k e => match e with
    | .Call (.Name x _) es [] _ => decide (x = b.nm) && !es.isEmpty && glC k.sc x && (ck G N n as).es k es
    | _ => false) rfl (fun N => rfl) (fun N k x hx => ?_) fun {N E k X x} o hN hx => ?_
  · split at hx
    · rfl
    · cases hx
  · split at hx
    · rename_i y p es pos
      simp only [Bool.and_eq_true] at hx
      obtain ⟨⟨⟨h1, h2⟩, h3⟩, h5⟩ := hx
      obtain rfl := of_decide_eq_true h1
      cases es with
      | nil => cases h2
      | cons e es =>
        have hs := ha.ns h5
        rw [List.all_cons, Bool.and_eq_true] at hs
        have d := ok_dbg (blt_okN b)
        have R := call_blt (X := X) o.calm (by have := o.room.un; omega) b
        have run : ∀ (σ : L2.St) (H : Hp) (Q : VK), tOf ⟨X.K, E⟩ (wp Φ (.blt b live as)).e σ H Q → tCB (rBlt X.K b) (tOfA ⟨X.K, E⟩ (wp Φ as).es) σ H Q := fun σ H Q q => by
          obtain ⟨hh, ρ, S, Q0, Y, s, q, kv, kx⟩ := q
          refine ⟨hh, ρ, S, _, Y, s, q, fun ws S1 vs H1 s1 e1 r1 q1 => ?_, kx⟩
          exact blts (C := (⟨X.K, E⟩ : Ct0).at hh) b s1 r1 q1 (kv.to e1)
        have hv := blt_boot b
        have hm := o.g.blt b
        have hB : ∀ id, b.val = .builtin id → PE X (.Call (.Name b.nm p) (e :: es) [] pos) (tCB (rBlt X.K b) (tOfA ⟨X.K, E⟩ (wp Φ as).es)) := fun id he => by
          rw [he] at R hv
          exact pe_callB R (gl_of o h3) hm hv (ha.es o hN h5) d.2.2 d.1 (star_of hs.1) (any_of hs.2)
        have hT : ∀ id, b.val = .type id → PE X (.Call (.Name b.nm p) (e :: es) [] pos) (tCB (rBlt X.K b) (tOfA ⟨X.K, E⟩ (wp Φ as).es)) := fun id he => by
          rw [he] at R hv
          exact pe_callTy R (gl_of o h3) hm hv (ha.es o hN h5) d.2.2 d.1 (star_of hs.1) (any_of hs.2)
        refine PE.imp ?_ run
        cases b <;> first | exact hB _ rfl | exact hT _ rfl
    · cases hx
theorem snd_mth {m : Mth} {a as : CE} (ho : Snd CX G Φ n a) (ha : Snd CX G Φ n as) : Snd CX G Φ n (.mth m a as) := by
  refine sndE _ (fun N k e => match e with
    | .Call (.Attribute x y apos) es [] cpos => decide (y = m.nm) && (apos.endLine == cpos.line) && decide (es.length < 30) && notCall0 x && (ck G N n a).e k x && (ck G N n as).es k es
    | _ => false) rfl (fun N => rfl) (fun N k x hx => ?_) fun {N E k X x} o hN hx => ?_
  · split at hx
    · rfl
    · cases hx
  · split at hx
    · rename_i x y apos es cpos
      simp only [Bool.and_eq_true] at hx
      obtain ⟨⟨⟨⟨⟨h1, h2⟩, h3⟩, h4⟩, h5⟩, h6⟩ := hx
      obtain rfl := of_decide_eq_true h1
      have hl := of_decide_eq_true h3
      cases es with
      | nil =>
        obtain rfl := es_nil h6
        refine PE.imp (pe_bm0 m.plain m.slot m.type (mt_all (units_of o.room) m) (ho.e o hN h5) (base_of h4) h2) fun σ H Q q => ?_
        obtain ⟨hh, ρ, S, Q0, Y, s, q, kv, kx⟩ := q
        refine ⟨hh, ρ, S, _, Y, s, q, fun w S1 v H1 s1 e1 r1 q1 => ?_, kx⟩
        exact ⟨rcvs (C := (⟨X.K, E⟩ : Ct0).at hh) s1.sto r1 q1.1, mths (C := (⟨X.K, E⟩ : Ct0).at hh) m s1 r1 .nil q1.2 (kv.to e1)⟩
      | cons e es =>
        have hs := ha.ns h6
        have hs' := hs
        rw [List.all_cons, Bool.and_eq_true] at hs
        refine PE.imp (pe_bm m.plain m.slot m.type (mt_all (units_of o.room) m) (ho.e o hN h5) (ha.es o hN h6) (base_of h4) ?_ h2 (star_of hs.1) (any_of hs.2)) fun σ H Q q => ?_
        · rw [all_of hs']
          simp only [Bool.true_and, Bool.and_eq_true, decide_eq_true_eq]
          exact ⟨rfl, by simpa using hl⟩
        · obtain ⟨hh, ρ, S, Q0, Y, s, q, kv, kx⟩ := q
          refine ⟨hh, ρ, S, _, Y, s, q, fun w S1 v H1 s1 e1 r1 q1 => ⟨rcvs (C := (⟨X.K, E⟩ : Ct0).at hh) s1.sto r1 q1.1, hh, ρ, S1, _, Y, s1, q1.2, fun ws S2 vs H2 s2 e2 r2 q2 => ?_, kx.to e1⟩, kx⟩
          exact mths (C := (⟨X.K, E⟩ : Ct0).at hh) m s2 (r1.mono e2) r2 q2 (kv.to (e1.trans e2))
    · cases hx
/-! ### subscripts, displays -/
theorem snd_idx {a b : CE} (ha : Snd CX G Φ n a) (hb : Snd CX G Φ n b) : Snd CX G Φ n (.idx a b) := by
  refine sndE _ (fun N k e => match e with | .Subscript v s _ => notSlice s && (ck G N n a).e k v && (ck G N n b).e k s | _ => false) rfl (fun N => rfl) (fun N k x hx => by cases x <;> first | rfl | cases hx) fun {N E k X x} o hN hx => ?_
  cases x with
  | Subscript v s pos =>
    simp only [Bool.and_eq_true] at hx
    obtain ⟨⟨h1, h2⟩, h3⟩ := hx
    exact PE.imp (pe_ix (ix_all (by have := units_of o.room; omega)) (ha.e o hN h2) (hb.e o hN h3) (plain_of h1)) fun σ H Q q => tOf_op (fun h => ops_idx) q
  | _ => cases hx
theorem snd_slc {live : Bool} {a lo hi : CE} (ha : Snd CX G Φ n a) (hl : Snd CX G Φ n lo) (hh : Snd CX G Φ n hi) : Snd CX G Φ n (.slc live a lo hi) := by
  refine sndE _ (fun N k e => match e with | .Subscript v (.Slice l u none _) _ => (ck G N n a).e k v && (ck G N n lo).o k l && (ck G N n hi).o k u | _ => false) rfl (fun N => rfl) (fun N k x hx => ?_) fun {N E k X x} o hN hx => ?_
  · split at hx
    · rfl
    · cases hx
  · split at hx
    · simp only [Bool.and_eq_true] at hx
      refine PE.imp (pe_slice sl_all (ha.e o hN hx.1.1) (hl.o o hN hx.1.2) (hh.o o hN hx.2)) fun σ H Q q => ?_
      obtain ⟨h, ρ, S, Q0, Y, s, q, kv, kx⟩ := q
      refine ⟨h, ρ, S, _, Y, s, q, fun w S1 v H1 s1 e1 r1 q1 => ⟨h, ρ, S1, _, Y, s1, q1, fun l S2 H2 s2 e2 q2 => ⟨h, ρ, S2, _, Y, s2, q2, fun u S3 H3 s3 e3 q3 => ?_, kx.to (e1.trans e2)⟩, kx.to e1⟩, kx⟩
      exact slcs (C := (⟨X.K, E⟩ : Ct0).at h) s3 (r1.mono (e2.trans e3)) q3 (kv.to ((e1.trans e2).trans e3))
    · cases hx
theorem snd_rev {live : Bool} {a : CE} (ha : Snd CX G Φ n a) : Snd CX G Φ n (.rev live a) := by
  refine sndE _ (fun N k e => match e with | .Subscript v (.Slice none none (some (.UnaryOp .USub (.Constant (.int 1) _ _) _)) _) _ => (ck G N n a).e k v | _ => false) rfl (fun N => rfl) (fun N k x hx => ?_) fun {N E k X x} o hN hx => ?_
  · split at hx
    · rfl
    · cases hx
  · split at hx
    · refine PE.imp (pe_revL (ha.e o hN hx)) fun σ H Q q => ?_
      obtain ⟨h, ρ, S, Q0, Y, s, q, kv, kx⟩ := q
      refine ⟨h, ρ, S, _, Y, s, q, fun w S1 v H1 s1 e1 r1 q1 => ?_, kx⟩
      obtain ⟨ws, hw, q1⟩ := q1
      obtain ⟨a, vs, rfl, ha, ra⟩ := rdL_sq s1.sto r1 hw
      exact ⟨a, vs, rfl, ha.sq, (kv.to e1).newLst s1 ra.reverse q1⟩
    · cases hx
theorem snd_tup {as : CE} (ha : Snd CX G Φ n as) : Snd CX G Φ n (.tup as) := by
  refine sndE _ (fun N k e => match e with | .Tuple es _ _ => (ck G N n as).es k es | _ => false) rfl (fun N => rfl) (fun N k x hx => by cases x <;> first | rfl | cases hx) fun {N E k X x} o hN hx => ?_
  cases x with
  | Tuple es j pos =>
    refine PE.imp (pe_tup (ha.es o hN hx)) fun σ H Q q => ?_
    obtain ⟨h, ρ, S, Q0, Y, s, q, kv, kx⟩ := q
    refine ⟨h, ρ, S, _, Y, s, q, fun ws S1 vs H1 s1 e1 r1 q1 => ?_, kx⟩
    exact ⟨by rw [← r1.length]; exact q1.1, (kv.to e1).newTup s1 r1 q1.2⟩
  | _ => cases hx
theorem snd_lst {live : Bool} {as : CE} (ha : Snd CX G Φ n as) : Snd CX G Φ n (.lst live as) := by
  refine sndE _ (fun N k e => match e with | .List es _ => (ck G N n as).es k es | _ => false) rfl (fun N => rfl) (fun N k x hx => by cases x <;> first | rfl | cases hx) fun {N E k X x} o hN hx => ?_
  cases x with
  | List es pos =>
    refine PE.imp (pe_lst (ha.es o hN hx)) fun σ H Q q => ?_
    obtain ⟨h, ρ, S, Q0, Y, s, q, kv, kx⟩ := q
    refine ⟨h, ρ, S, _, Y, s, q, fun ws S1 vs H1 s1 e1 r1 q1 => ?_, kx⟩
    exact ⟨by rw [← r1.length]; exact q1.1, (kv.to e1).newLst s1 r1 q1.2⟩
  | _ => cases hx
end
end MP

set_option Elab.async false
set_option linter.all false
set_option maxRecDepth 100000
set_option maxHeartbeats 4000000
/-! MP10: expressions, the rest: lists of them, displays, targets, what is walked, comprehensions. -/
namespace MP
open PySem PySem.Spec PyProof.Rows L2

section
variable {CX : CXT} {G : Gv} {Φ : Nat → Spec} {n : Nat}
theorem snd_ife {t a b : CE} (ht : Snd CX G Φ n t) (ha : Snd CX G Φ n a) (hb : Snd CX G Φ n b) : Snd CX G Φ n (.ife t a b) := by
  refine ⟨fun {N E k X x} o hN hx => ?_, fun {N E k X x} x' hN hx => ?_, fun {N E k X x} x' hN hx => ?_, fun {N E k X x p} x' hN hx => ?_, fun {N E k X x p} x' hN hx => ?_, fun {N E k X x p} x' hN hx => ?_, fun {N E k X x p} x' hN hx => ?_,
    fun {N k x} hx => ?_, fun {N k x} hx => ?_, fun {N E k X x} x' hN hx => ?_, fun {N E k X x} x' hN hx => ?_, fun {N E k X x} x' hN hx => ?_, fun {N E k X x} x' hN hx => ?_, fun {N E k X t x} x' hN hx => ?_⟩
  · cases x with
    | IfExp c y z pos =>
      have hx' : ((ck G N n t).e k c && (ck G N n a).e k y && (ck G N n b).e k z) = true := hx
      simp only [Bool.and_eq_true] at hx'
      refine PE.imp (pe_ifExp (ht.t o hN hx'.1.1) (ha.e o hN hx'.1.2) (hb.e o hN hx'.2)) fun σ H Q q => ?_
      obtain ⟨h, ρ, S, Q0, Y, s, q, kv, kx⟩ := q
      refine ⟨h, ρ, S, _, Y, s, q, fun r S1 H1 s1 e1 q1 => ?_, kx⟩
      cases r with
      | true =>
        rw [if_pos rfl] at q1
        exact iteT ⟨h, ρ, S1, _, Y, s1, q1, kv.to e1, kx.to e1⟩
      | false =>
        rw [if_neg Bool.false_ne_true] at q1
        exact iteF ⟨h, ρ, S1, _, Y, s1, q1, kv.to e1, kx.to e1⟩
    | _ => cases hx
  · refine ⟨fun pins s σ H Q I q => ?_⟩
    obtain ⟨h, ρ, S, Q0, Y, s, q, _⟩ := q
    exact q.elim
  all_goals cases hx
/-! ### lists of expressions -/
theorem snd_nil : Snd CX G Φ n .nil := by
  have nl : ∀ {xs : List Expr}, xs.isEmpty = true → xs = [] := fun {xs} h => by cases xs <;> first | rfl | cases h
  refine ⟨fun {N E k X x} o hN hx => ?_, fun {N E k X x} x' hN hx => ?_, fun {N E k X x} o hN hx => ?_, fun {N E k X x p} x' hN hx ne => absurd (nl hx) ne, fun {N E k X x p} x' hN hx ne => absurd (nl hx) ne, fun {N E k X x p} x' hN hx ne => absurd (nl hx) ne,
    fun {N E k X x p} x' hN hx ne => absurd (nl hx) ne,
    fun {N k x} hx => ?_, fun {N k x} hx => ?_, fun {N E k X x} x' hN hx => ?_, fun {N E k X x} x' hN hx => ?_, fun {N E k X x} x' hN hx => ?_, fun {N E k X x} x' hN hx => ?_, fun {N E k X t x} x' hN hx => ?_⟩
  · cases hx
  · cases hx
  · obtain rfl := nl hx
    refine PA.imp pa_nil fun σ H Q q => ?_
    obtain ⟨h, ρ, S, Q0, Y, s, q, kv, kx⟩ := q
    exact kv [] S [] H s (Same.refl _) .nil q
  · obtain rfl := nl hx
    rfl
  · obtain rfl := nl hx
    exact ⟨fun h => (by cases h), fun h => absurd rfl h⟩
  · cases x with
    | none =>
      refine PO.imp po_none fun σ H Q q => ?_
      obtain ⟨h, ρ, S, Q0, Y, s, q, kv, kx⟩ := q
      exact kv none S H s (Same.refl _) q
    | some x => cases hx
  · obtain rfl := nl hx
    refine ⟨fun pins s σ H Q I q => pts_nil.run pins s σ H Q I ?_⟩
    obtain ⟨h, ρ, S, Q0, Y, s, q, kv, kx⟩ := q
    exact kv true S H s (Same.refl _) q
  · cases hx
  · obtain rfl := nl hx
    refine ⟨PGs.imp pgs_nil fun vs σ H Q q => ?_, rfl, rfl⟩
    obtain ⟨h, ws, ρ, S, Q0, s, r, ⟨rfl, q⟩, kv⟩ := q
    cases r
    exact ⟨rfl, kv ρ S σ H s (Same.refl _) Al.refl q⟩
  · cases hx
theorem snd_cons {a as : CE} (ha : Snd CX G Φ n a) (has : Snd CX G Φ n as) : Snd CX G Φ n (.cons a as) := by
  have parts : ∀ {N : List Str} {k : Sk} {xs : List Expr}, (ck G N n (.cons a as)).es k xs = true → ∃ x r, xs = x :: r ∧ notStar x = true ∧ (ck G N n a).e k x = true ∧ (ck G N n as).es k r = true := fun {N k xs} h => by
    cases xs with
    | nil => cases h
    | cons x r =>
      have h' : (notStar x && (ck G N n a).e k x && (ck G N n as).es k r) = true := h
      simp only [Bool.and_eq_true] at h'
      exact ⟨x, r, rfl, h'.1.1, h'.1.2, h'.2⟩
  refine ⟨fun {N E k X x} o hN hx => ?_, fun {N E k X x} x' hN hx => ?_, fun {N E k X x} o hN hx => ?_, fun {N E k X x p} o hN hx ne => ?_, fun {N E k X x p} o hN hx ne => ?_, fun {N E k X x p} o hN hx ne => ?_, fun {N E k X x p} o hN hx ne => ?_,
    fun {N k x} hx => ?_, fun {N k x} hx => ?_, fun {N E k X x} x' hN hx => ?_, fun {N E k X x} o hN hx => ?_, fun {N E k X x} x' hN hx => ?_, fun {N E k X x} o hN hx => ?_, fun {N E k X t x} x' hN hx => ?_⟩
  · cases hx
  · cases hx
  · obtain ⟨x, r, rfl, h1, h2, h3⟩ := parts hx
    refine PA.imp (pa_cons (ha.e o hN h2) (has.es o hN h3) (star_of h1)) fun σ H Q q => ?_
    obtain ⟨h, ρ, S, Q0, Y, s, q, kv, kx⟩ := q
    refine ⟨h, ρ, S, _, Y, s, q, fun w S1 v H1 s1 e1 r1 q1 => ⟨h, ρ, S1, _, Y, s1, q1, fun ws S2 vs H2 s2 e2 r2 q2 => ?_, kx.to e1⟩, kx⟩
    exact kv _ S2 _ H2 s2 (e1.trans e2) (.cons (r1.mono e2) r2) q2
  · obtain ⟨x, r, rfl, h1, h2, h3⟩ := parts hx
    have hm := has.more h3
    cases r with
    | nil =>
      have hf : (wp Φ as).more = false := by
        cases e : (wp Φ as).more with
        | false => rfl
        | true => exact absurd rfl (hm.mp e)
      refine PE.imp (pe_one (ha.e o hN h2)) fun σ H Q q => ?_
      obtain ⟨h, ρ, S, Q0, Y, s, q, kv, kx⟩ := q
      have q' : (if (wp Φ as).more = true then _ else (wp Φ a).e ρ S Q0 Y) := q
      rw [hf, if_neg Bool.false_ne_true] at q'
      exact ⟨h, ρ, S, Q0, Y, s, q', kv, kx⟩
    | cons y r =>
      have ht : (wp Φ as).more = true := hm.mpr (by simp)
      refine PE.imp (pe_andT (ha.e o hN h2) (has.an o hN h3 (by simp))) fun σ H Q q => ?_
      obtain ⟨h, ρ, S, Q0, Y, s, q, kv, kx⟩ := q
      have q' : (if (wp Φ as).more = true then (wp Φ a).e ρ S (fun x S1 => ∃ b, truW S1 x = some b ∧ if b = true then (wp Φ as).an ρ S1 Q0 Y else Q0 x S1) Y else _) := q
      rw [ht, if_pos rfl] at q'
      refine ⟨h, ρ, S, _, Y, s, q', fun w S1 v H1 s1 e1 r1 q1 => ?_, kx⟩
      obtain ⟨b, hb, q1⟩ := q1
      refine ⟨b, truW_v s1.sto r1 hb, ?_⟩
      cases b with
      | true =>
        rw [if_pos rfl] at q1
        exact iteT ⟨h, ρ, S1, _, Y, s1, q1, kv.to e1, kx.to e1⟩
      | false =>
        rw [if_neg Bool.false_ne_true] at q1
        exact iteF ((kv.to e1).give s1 r1 q1)
  · obtain ⟨x, r, rfl, h1, h2, h3⟩ := parts hx
    have hm := has.more h3
    cases r with
    | nil =>
      have hf : (wp Φ as).more = false := by
        cases e : (wp Φ as).more with
        | false => rfl
        | true => exact absurd rfl (hm.mp e)
      refine PE.imp (pe_one (ha.e o hN h2)) fun σ H Q q => ?_
      obtain ⟨h, ρ, S, Q0, Y, s, q, kv, kx⟩ := q
      have q' : (if (wp Φ as).more = true then _ else (wp Φ a).e ρ S Q0 Y) := q
      rw [hf, if_neg Bool.false_ne_true] at q'
      exact ⟨h, ρ, S, Q0, Y, s, q', kv, kx⟩
    | cons y r =>
      have ht : (wp Φ as).more = true := hm.mpr (by simp)
      refine PE.imp (pe_orT (ha.e o hN h2) (has.or o hN h3 (by simp))) fun σ H Q q => ?_
      obtain ⟨h, ρ, S, Q0, Y, s, q, kv, kx⟩ := q
      have q' : (if (wp Φ as).more = true then (wp Φ a).e ρ S (fun x S1 => ∃ b, truW S1 x = some b ∧ if b = true then Q0 x S1 else (wp Φ as).or ρ S1 Q0 Y) Y else _) := q
      rw [ht, if_pos rfl] at q'
      refine ⟨h, ρ, S, _, Y, s, q', fun w S1 v H1 s1 e1 r1 q1 => ?_, kx⟩
      obtain ⟨b, hb, q1⟩ := q1
      refine ⟨b, truW_v s1.sto r1 hb, ?_⟩
      cases b with
      | true =>
        rw [if_pos rfl] at q1
        exact iteT ((kv.to e1).give s1 r1 q1)
      | false =>
        rw [if_neg Bool.false_ne_true] at q1
        exact iteF ⟨h, ρ, S1, _, Y, s1, q1, kv.to e1, kx.to e1⟩
  · obtain ⟨x, r, rfl, h1, h2, h3⟩ := parts hx
    have hm := has.more h3
    cases r with
    | nil =>
      have hf : (wp Φ as).more = false := by
        cases e : (wp Φ as).more with
        | false => rfl
        | true => exact absurd rfl (hm.mp e)
      refine PW.imp (pw_and1 (ha.t o hN h2)) fun σ H Q q => ?_
      obtain ⟨h, ρ, S, Q0, Y, s, q, kv, kx⟩ := q
      have q' : (if (wp Φ as).more = true then _ else (wp Φ a).t ρ S Q0 Y) := q
      rw [hf, if_neg Bool.false_ne_true] at q'
      exact ⟨h, ρ, S, Q0, Y, s, q', kv, kx⟩
    | cons y r =>
      have ht : (wp Φ as).more = true := hm.mpr (by simp)
      refine PW.imp (pw_and (ha.t o hN h2) (has.ant o hN h3 (by simp))) fun σ H Q q => ?_
      obtain ⟨h, ρ, S, Q0, Y, s, q, kv, kx⟩ := q
      have q' : (if (wp Φ as).more = true then (wp Φ a).t ρ S (fun b S1 => if b = true then (wp Φ as).ant ρ S1 Q0 Y else Q0 false S1) Y else _) := q
      rw [ht, if_pos rfl] at q'
      refine ⟨h, ρ, S, _, Y, s, q', fun b S1 H1 s1 e1 q1 => ?_, kx⟩
      cases b with
      | true =>
        rw [if_pos rfl] at q1
        exact iteT ⟨h, ρ, S1, _, Y, s1, q1, fun b S2 H2 s2 e2 => kv b S2 H2 s2 (e1.trans e2), kx.to e1⟩
      | false =>
        rw [if_neg Bool.false_ne_true] at q1
        exact iteF (kv _ S1 H1 s1 e1 q1)
  · obtain ⟨x, r, rfl, h1, h2, h3⟩ := parts hx
    have hm := has.more h3
    cases r with
    | nil =>
      have hf : (wp Φ as).more = false := by
        cases e : (wp Φ as).more with
        | false => rfl
        | true => exact absurd rfl (hm.mp e)
      refine PW.imp (pw_or1 (ha.t o hN h2)) fun σ H Q q => ?_
      obtain ⟨h, ρ, S, Q0, Y, s, q, kv, kx⟩ := q
      have q' : (if (wp Φ as).more = true then _ else (wp Φ a).t ρ S Q0 Y) := q
      rw [hf, if_neg Bool.false_ne_true] at q'
      exact ⟨h, ρ, S, Q0, Y, s, q', kv, kx⟩
    | cons y r =>
      have ht : (wp Φ as).more = true := hm.mpr (by simp)
      refine PW.imp (pw_or (ha.t o hN h2) (has.ort o hN h3 (by simp))) fun σ H Q q => ?_
      obtain ⟨h, ρ, S, Q0, Y, s, q, kv, kx⟩ := q
      have q' : (if (wp Φ as).more = true then (wp Φ a).t ρ S (fun b S1 => if b = true then Q0 true S1 else (wp Φ as).ort ρ S1 Q0 Y) Y else _) := q
      rw [ht, if_pos rfl] at q'
      refine ⟨h, ρ, S, _, Y, s, q', fun b S1 H1 s1 e1 q1 => ?_, kx⟩
      cases b with
      | true =>
        rw [if_pos rfl] at q1
        exact iteT (kv _ S1 H1 s1 e1 q1)
      | false =>
        rw [if_neg Bool.false_ne_true] at q1
        exact iteF ⟨h, ρ, S1, _, Y, s1, q1, fun b S2 H2 s2 e2 => kv b S2 H2 s2 (e1.trans e2), kx.to e1⟩
  · obtain ⟨x, r, rfl, h1, h2, h3⟩ := parts hx
    rw [List.all_cons, h1, has.ns h3]
    rfl
  · obtain ⟨x, r, rfl, h1, h2, h3⟩ := parts hx
    exact ⟨fun _ => by simp, fun _ => rfl⟩
  · cases hx
  · cases x with
    | nil => cases hx
    | cons y r =>
      cases r with
      | nil =>
        refine ⟨fun pins s σ H Q I q => (pts_one (ha.t o hN hx)).run pins s σ H Q I ?_⟩
        obtain ⟨h, ρ, S, Q0, Y, s, q, kv, kx⟩ := q
        exact ⟨h, ρ, S, Q0, XN, s, q, kv, XCk.no⟩
      | cons z r => cases hx
  · cases hx
  · cases x with
    | nil => cases hx
    | cons y r =>
      have h' : (notStar y && (ck G N n a).g k y && (ck G N n as).gs k r) = true := hx
      simp only [Bool.and_eq_true] at h'
      obtain ⟨⟨h1, h2⟩, h3⟩ := h'
      obtain ⟨p1, p2, p3⟩ := has.gs o hN h3
      have hs := asg_of (es := r) (env := X.env) h1
      refine ⟨PGs.imp (pgs_cons (ha.g o hN h2) p1 (by rw [hs]; rfl)) fun vs σ H Q q => ?_, by rw [hs, List.length_cons, List.length_cons, p2], by rw [hs, List.findIdx?_cons, p3]; rfl⟩
      obtain ⟨h, ws, ρ, S, Q0, s, rr, ⟨w, ws', rfl, q⟩, kv⟩ := q
      obtain _ | ⟨r1, r2⟩ := rr
      refine ⟨_, _, rfl, h, w, ρ, S, _, s, r1, q, fun ρ1 S1 σ1 H1 s1 e1 al1 q1 => ⟨h, ws', ρ1, S1, _, s1, r2.mono e1, q1, fun ρ2 S2 σ2 H2 s2 e2 al2 q2 => ?_⟩⟩
      exact kv ρ2 S2 σ2 H2 s2 (e1.trans e2) ((al1.mono fun j hj => List.mem_append_left _ hj).trans (al2.mono fun j hj => List.mem_append_right _ hj)) q2
  · cases hx
/-! ### targets -/
theorem snd_tnm (i : Nat) : Snd CX G Φ n (.tnm i) := by
  refine sndO (fun _ _ _ => rfl) (fun _ _ _ => rfl) (fun _ _ _ => rfl) (fun _ _ _ => rfl) (fun _ _ _ => rfl) (fun {N E k X x} o hN hx => ?_) (fun {N E k X t x} o hN hx => by cases hx)
  cases x with
  | Name y p =>
    have hx' : (decide (N[i]? = some y) && stoC k y && okN y) = true := hx
    simp only [Bool.and_eq_true] at hx'
    obtain ⟨⟨h1, h2⟩, h3⟩ := hx'
    have l := loc_of o h2
    refine PG.imp (pg_name (i := i) o.nd (by rw [hN]; exact of_decide_eq_true h1) l.1 l.2) fun v σ H Q q => ?_
    obtain ⟨h, w, ρ, S, Q0, s, r, q, kv⟩ := q
    exact kv _ S _ H (s.set r) (Same.refl _) Al.set q
  | _ => cases hx
theorem cnt_gs : ∀ (c : CE) {N : List Str} {k : Sk} {xs : List Expr}, (ck G N n c).gs k xs = true → xs.length = cntC c
  | .nil, N, k, xs, h => by
    have h' : xs.isEmpty = true := h
    cases xs <;> first | rfl | cases h'
  | .cons a as, N, k, xs, h => by
    cases xs with
    | nil => cases h
    | cons y r =>
      have h' : (notStar y && (ck G N n a).g k y && (ck G N n as).gs k r) = true := h
      simp only [Bool.and_eq_true] at h'
      show r.length + 1 = cntC as + 1
      rw [cnt_gs as h'.2]
  | .var _, _, _, _, h | .cst _, _, _, _, h | .glb _ _, _, _, _, h | .bin _ _ _ _, _, _, _, h | .neg _, _, _, _, h | .nt _, _, _, _, h | .cmp _ _ _, _, _, _, h | .chain _ _ _ _ _, _, _, _, h => by cases h
  | .an _, _, _, _, h | .or _, _, _, _, h | .ife _ _ _, _, _, _, h | .call _ _, _, _, _, h | .blt _ _ _, _, _, _, h | .mth _ _ _, _, _, _, h | .idx _ _, _, _, _, h | .slc _ _ _ _, _, _, _, h => by cases h
  | .rev _ _, _, _, _, h | .tup _, _, _, _, h | .lst _ _, _, _, _, h | .dnew _, _, _, _, h | .dct _, _, _, _, h | .lc _ _ _ _ _ _, _, _, _, h | .frz _, _, _, _, h | .isi _ _, _, _, _, h | .lrg _ _, _, _, _, h | .tnm _, _, _, _, h | .ttup _, _, _, _, h | .tsub _ _, _, _, _, h => by cases h
  | .iseq _, _, _, _, h | .irng1 _, _, _, _, h | .irng2 _ _, _, _, _, h | .irng3 _ _ _, _, _, _, h | .izip _ _, _, _, _, h | .ienm _, _, _, _, h => by cases h
theorem pg_or {X : Cx} {e : Expr} {t u : TG} (h : PG X e t) (h' : PG X e u) : PG X e fun v σ H Q => t v σ H Q ∨ u v σ H Q :=
  ⟨fun pins s σ H v w Q I r q => q.elim (h.run pins s σ H v w Q I r) (h'.run pins s σ H v w Q I r)⟩
theorem snd_ttup {ts : CE} (ht : Snd CX G Φ n ts) : Snd CX G Φ n (.ttup ts) := by
  refine sndO (fun _ _ _ => rfl) (fun _ _ _ => rfl) (fun _ _ _ => rfl) (fun _ _ _ => rfl) (fun _ _ _ => rfl) (fun {N E k X x} o hN hx => ?_) (fun {N E k X t x} o hN hx => by cases hx)
  cases x with
  | Tuple es j p =>
    have hx' : (ck G N n ts).gs k es = true := hx
    obtain ⟨p1, p2, p3⟩ := ht.gs o hN hx'
    have c1 := pg_tup (n := cntC ts) (k := j) (pos := p) o.calm p1 (by rw [p2]; exact cnt_gs ts hx') p3
    have c2 := pg_unl (n := cntC ts) (k := j) (pos := p) o.calm p1 (by rw [p2]; exact cnt_gs ts hx') p3
    refine PG.imp (pg_or c1 c2) fun v σ H Q q => ?_
    obtain ⟨h, w, ρ, S, Q0, s, r, ⟨ws, hw, hl, q⟩, kv⟩ := q
    obtain ⟨a, vs, rfl, ha, ra⟩ := rdQ_sq s.sto r hw
    rcases ha with ha | ha
    · exact .inr ⟨a, vs, rfl, ha, by rw [← ra.length, hl], h, ws, ρ, S, Q0, s, ra, q, kv⟩
    · exact .inl ⟨a, vs, rfl, ha, by rw [← ra.length, hl], h, ws, ρ, S, Q0, s, ra, q, kv⟩
  | _ => cases hx
theorem snd_tsub {a i : CE} (ha : Snd CX G Φ n a) (hi : Snd CX G Φ n i) : Snd CX G Φ n (.tsub a i) := by
  refine sndO (fun _ _ _ => rfl) (fun _ _ _ => rfl) (fun _ _ _ => rfl) (fun _ _ _ => rfl) (fun _ _ _ => rfl) (fun {N E k X x} o hN hx => ?_) (fun {N E k X t x} o hN hx => by cases hx)
  cases x with
  | Subscript y z p =>
    have hx' : (notSlice z && (ck G N n a).e k y && (ck G N n i).e k z) = true := hx
    simp only [Bool.and_eq_true] at hx'
    obtain ⟨⟨h1, h2⟩, h3⟩ := hx'
    have hu : X.A.units + 1 < cLine := by have := units_of o.room; omega
    refine PG.imp (pg_sub (ha.e o hN h2) (hi.e o hN h3) (set_all hu) (fun v => by cases z <;> first | rfl | cases h1)) fun v σ H Q q => ?_
    obtain ⟨h, w, ρ, S, Q0, s, r, q, kv⟩ := q
    refine ⟨h, ρ, S, _, XN, s, q, fun x S1 vx H1 s1 e1 r1 q1 => ⟨h, ρ, S1, _, XN, s1, q1, fun y S2 vy H2 s2 e2 r2 q2 => ?_, XCk.no⟩, XCk.no⟩
    exact sets (C := (⟨X.K, E⟩ : Ct0).at h) s2 (r1.mono e2) r2 (r.mono (e1.trans e2)) q2 fun S3 H3 s3 e3 q3 => kv ρ S3 σ H3 s3 ((e1.trans e2).trans e3) Al.refl q3
  | _ => cases hx
/-! ### what is walked -/
theorem snd_iseq {a : CE} (ha : Snd CX G Φ n a) : Snd CX G Φ n (.iseq a) := by
  refine sndO (fun _ _ _ => rfl) (fun _ _ _ => rfl) (fun _ _ _ => rfl) (fun _ _ _ => rfl) (fun _ _ _ => rfl) (fun {N E k X x} o hN hx => by cases hx) (fun {N E k X t x} o hN hx => ?_)
  have hx' : (notSet x && (ck G N n a).e k x) = true := hx
  simp only [Bool.and_eq_true] at hx'
  exact PI.imp (pi_seq (ha.e o hN hx'.2)) fun σ H R q => imp_seq q
theorem snd_irng1 {a : CE} (ha : Snd CX G Φ n a) : Snd CX G Φ n (.irng1 a) := by
  refine sndO (fun _ _ _ => rfl) (fun _ _ _ => rfl) (fun _ _ _ => rfl) (fun _ _ _ => rfl) (fun _ _ _ => rfl) (fun {N E k X x} o hN hx => by cases hx) (fun {N E k X t x} o hN hx => ?_)
  simp only [ck] at hx
  split at hx
  · rename_i y p x1 pos
    simp only [Bool.and_eq_true] at hx
    obtain ⟨⟨⟨h1, h2⟩, h3⟩, h4⟩ := hx
    obtain rfl := of_decide_eq_true h1
    have hm := o.g.more.1
    refine PI.imp (pi_range1 (gl_of o h2) hm (pa_cons (ha.e o hN h4) pa_nil (star_of h3)) (star_of h3)) fun σ H R q => ?_
    obtain ⟨h, ρ, S, Q0, Y, s, q, kv, kx⟩ := q
    refine ⟨h, ρ, S, _, Y, s, q, fun w S1 v H1 s1 e1 r1 q1 => ?_, kx⟩
    cases w with
    | int i =>
      cases r1
      exact ⟨_, rfl, q1.1, q1.2.1, kv _ _ _ _ _ s1 e1 (fun _ _ => itok_range) q1.2.2⟩
    | _ => exact (show False from q1).elim
  · cases hx
theorem snd_irng2 {a b : CE} (ha : Snd CX G Φ n a) (hb : Snd CX G Φ n b) : Snd CX G Φ n (.irng2 a b) := by
  refine sndO (fun _ _ _ => rfl) (fun _ _ _ => rfl) (fun _ _ _ => rfl) (fun _ _ _ => rfl) (fun _ _ _ => rfl) (fun {N E k X x} o hN hx => by cases hx) (fun {N E k X t x} o hN hx => ?_)
  simp only [ck] at hx
  split at hx
  · rename_i y p x1 x2 pos
    simp only [Bool.and_eq_true] at hx
    obtain ⟨⟨⟨⟨⟨h1, h2⟩, h3⟩, h3'⟩, h4⟩, h5⟩ := hx
    obtain rfl := of_decide_eq_true h1
    have hm := o.g.more.1
    refine PI.imp (pi_range2 (gl_of o h2) hm (pa_cons (ha.e o hN h4) (pa_cons (hb.e o hN h5) pa_nil (star_of h3')) (star_of h3)) (by rw [star_of h3, star_of h3']; rfl) (star_of h3')) fun σ H R q => ?_
    obtain ⟨h, ρ, S, Q0, Y, s, q, kv, kx⟩ := q
    refine ⟨h, ρ, S, _, Y, s, q, fun w S1 v H1 s1 e1 r1 q1 => ⟨h, ρ, S1, _, Y, s1, q1, fun w2 S2 v2 H2 s2 e2 r2 q2 => ?_, kx.to e1⟩, kx⟩
    cases w with
    | int i =>
      cases w2 with
      | int j =>
        cases r1; cases r2
        exact ⟨_, _, rfl, q2.1, kv _ _ _ _ _ s2 (e1.trans e2) (fun _ _ => itok_range) q2.2⟩
      | _ => exact (show False from q2).elim
    | _ => exact (show False from q2).elim
  · cases hx
theorem snd_irng3 {a b c : CE} (ha : Snd CX G Φ n a) (hb : Snd CX G Φ n b) (hc : Snd CX G Φ n c) : Snd CX G Φ n (.irng3 a b c) := by
  refine sndO (fun _ _ _ => rfl) (fun _ _ _ => rfl) (fun _ _ _ => rfl) (fun _ _ _ => rfl) (fun _ _ _ => rfl) (fun {N E k X x} o hN hx => by cases hx) (fun {N E k X t x} o hN hx => ?_)
  simp only [ck] at hx
  split at hx
  · rename_i y p x1 x2 x3 pos
    simp only [Bool.and_eq_true] at hx
    obtain ⟨⟨⟨⟨⟨⟨⟨h1, h2⟩, h3⟩, h3'⟩, h3''⟩, h4⟩, h5⟩, h6⟩ := hx
    obtain rfl := of_decide_eq_true h1
    have hm := o.g.more.1
    refine PI.imp (pi_range3 (gl_of o h2) hm (pa_cons (ha.e o hN h4) (pa_cons (hb.e o hN h5) (pa_cons (hc.e o hN h6) pa_nil (star_of h3'')) (star_of h3')) (star_of h3)) (star_of h3) (by rw [star_of h3', star_of h3'']; rfl)) fun σ H R q => ?_
    obtain ⟨h, ρ, S, Q0, Y, s, q, kv, kx⟩ := q
    refine ⟨h, ρ, S, _, Y, s, q, fun w S1 v H1 s1 e1 r1 q1 => ⟨h, ρ, S1, _, Y, s1, q1, fun w2 S2 v2 H2 s2 e2 r2 q2 => ⟨h, ρ, S2, _, Y, s2, q2, fun w3 S3 v3 H3 s3 e3 r3 q3 => ?_, kx.to (e1.trans e2)⟩, kx.to e1⟩, kx⟩
    cases w with
    | int i =>
      cases w2 with
      | int j =>
        cases w3 with
        | int c' =>
          obtain ⟨m, hm, q3⟩ := q3
          cases r1; cases r2; cases r3
          exact ⟨_, _, _, m, rfl, hm, kv _ _ _ _ _ s3 ((e1.trans e2).trans e3) (fun _ _ => itok_rangeC) q3⟩
        | _ => exact (show False from q3).elim
      | _ => exact (show False from q3).elim
    | _ => exact (show False from q3).elim
  · cases hx
theorem snd_izip {a b : CE} (ha : Snd CX G Φ n a) (hb : Snd CX G Φ n b) : Snd CX G Φ n (.izip a b) := by
  refine sndO (fun _ _ _ => rfl) (fun _ _ _ => rfl) (fun _ _ _ => rfl) (fun _ _ _ => rfl) (fun _ _ _ => rfl) (fun {N E k X x} o hN hx => by cases hx) (fun {N E k X t x} o hN hx => ?_)
  simp only [ck] at hx
  split at hx
  · rename_i t1 t2 t3 y p x1 x2 pos
    simp only [Bool.and_eq_true] at hx
    obtain ⟨⟨⟨⟨⟨h1, h2⟩, h3⟩, h3'⟩, h4⟩, h5⟩ := hx
    obtain rfl := of_decide_eq_true h1
    have hm := o.g.more.2.1
    refine PI.imp (pi_zip (gl_of o h2) hm (pa_cons (ha.e o hN h4) (pa_cons (hb.e o hN h5) pa_nil (star_of h3')) (star_of h3)) (star_of h3) (by rw [star_of h3']; rfl)) fun σ H R q => ?_
    obtain ⟨h, ρ, S, Q0, Y, s, q, kv, kx⟩ := q
    refine ⟨h, ρ, S, _, Y, s, q, fun w S1 v H1 s1 e1 r1 q1 => ⟨h, ρ, S1, _, Y, s1, q1, fun w2 S2 v2 H2 s2 e2 r2 q2 => ?_, kx.to e1⟩, kx⟩
    obtain ⟨xs, ys, hx1, hy1, q2⟩ := q2
    obtain ⟨a1, us, rfl, b1, c1⟩ := rdL_sq s2.sto (r1.mono e2) hx1
    obtain ⟨a2, vs, rfl, b2, c2⟩ := rdL_sq s2.sto r2 hy1
    exact ⟨a1, a2, us, vs, rfl, b1.sq, b2.sq, kv _ _ _ _ _ s2 (e1.trans e2) (fun h' hh' => itok_zip ((r1.mono e2).agree hh') (r2.agree hh')) q2⟩
  · cases hx
theorem snd_ienm {a : CE} (ha : Snd CX G Φ n a) : Snd CX G Φ n (.ienm a) := by
  refine sndO (fun _ _ _ => rfl) (fun _ _ _ => rfl) (fun _ _ _ => rfl) (fun _ _ _ => rfl) (fun _ _ _ => rfl) (fun {N E k X x} o hN hx => by cases hx) (fun {N E k X t x} o hN hx => ?_)
  simp only [ck] at hx
  split at hx
  · rename_i t1 t2 t3 y p x1 pos
    simp only [Bool.and_eq_true] at hx
    obtain ⟨⟨⟨h1, h2⟩, h3⟩, h4⟩ := hx
    obtain rfl := of_decide_eq_true h1
    have hm := o.g.more.2.2.1
    refine PI.imp (pi_enum (gl_of o h2) hm (pa_cons (ha.e o hN h4) pa_nil (star_of h3)) (star_of h3)) fun σ H R q => ?_
    obtain ⟨h, ρ, S, Q0, Y, s, q, kv, kx⟩ := q
    refine ⟨h, ρ, S, _, Y, s, q, fun w S1 v H1 s1 e1 r1 q1 => ?_, kx⟩
    obtain ⟨xs, hx1, q1⟩ := q1
    obtain ⟨a1, us, rfl, b1, c1⟩ := rdL_sq s1.sto r1 hx1
    exact ⟨a1, us, rfl, b1.sq, kv _ _ _ _ _ s1 e1 (fun h' hh' => itok_enum (r1.agree hh') hx1) q1⟩
  · cases hx
/-! ### comprehensions -/
theorem ok_blk {E : L2.St → XK} {k : Sk} {X : Cx} {scope : Scope} {fp : List Addr} {s : Shared} {H : Hp} {cl : List (Str × Addr)} {C : Addr} (o : XOk CX G Φ n E k X) :
    XOk CX G Φ n (fun _ => E0) ⟨relS scope k.sc, some scope⟩ (X.blk s H scope (compEnvC scope cl C X.env) fp) where
  g := o.g
  calm := o.calm
  nd := o.nd
  room := o.room
  gd := o.gd
  rpn := o.rpn
  sc := by rw [← o.sc]; rfl
  fn := fun x h => by
    show (scope.names.lookup x == some .cell) = true
    rw [h scope rfl]
    rfl
  pass := o.g.e0 _ rfl rfl
  own := PassesOwn.never
theorem snd_lc {live : Bool} {own : List (Str × Nat)} {tg it cond elt : CE} (h1 : Snd CX G Φ n tg) (h2 : Snd CX G Φ n it) (h3 : Snd CX G Φ n cond) (h4 : Snd CX G Φ n elt) : Snd CX G Φ n (.lc live own tg it cond elt) := by
  refine sndE _ (fun N k e => match e with
    | .ListComp x [⟨t, i, ifs, 0⟩] scope _ => blkC N k.sc scope own && notSet i && (als tg).all (fun j => (own.map (·.2)).contains j) && (ck G N n it).i k t i &&
        (ck G N n tg).g ⟨relS scope k.sc, some scope⟩ t && (ck G N n cond).c ⟨relS scope k.sc, some scope⟩ ifs && (ck G N n elt).e ⟨relS scope k.sc, some scope⟩ x
    | _ => false) rfl (fun _ => rfl) (fun N k x hx => by split at hx <;> first | rfl | cases hx) fun {N E k X x} o hN hx => ?_
  split at hx
  · rename_i x t i ifs scope pos
    simp only [Bool.and_eq_true] at hx
    obtain ⟨⟨⟨⟨⟨⟨a1, a2⟩, a3⟩, a4⟩, a5⟩, a6⟩, a7⟩ := hx
    have ok : BlkOk X.N X.env.scope scope own := by rw [hN, o.sc]; exact blkOk_by a1
    refine PE.imp (pe_lc (g := tOfG ⟨X.K, fun _ => E0⟩ (als tg) (wp Φ tg).g) (tt := tOfT ⟨X.K, fun _ => E0⟩ fun ρ S Q _ => (wp Φ cond).c ρ S Q) (te := tOf ⟨X.K, fun _ => E0⟩ (wp Φ elt).e) o.calm o.nd (h2.i o hN a4) ok (fun s H C cl fp => h1.g (ok_blk o) hN a5) (fun s H C cl fp => h3.cc (ok_blk o) hN a6) (fun s H C cl fp => h4.e (ok_blk o) hN a7) (fold_of a2)) fun σ H Q q => ?_
    exact imp_lc (c := ⟨X.K, E⟩) (c' := ⟨X.K, fun _ => E0⟩) rfl (fun j hj => by simpa using List.all_eq_true.mp a3 j hj) q
  · cases hx
end
end MP

set_option Elab.async false
set_option linter.all false
set_option maxRecDepth 100000
set_option maxHeartbeats 4000000
/-! MP10b: list(zip), slices by a step, sorted(set) of pairs. -/
namespace MP
open PySem PySem.Spec PyProof.Rows L2

theorem pick_one (items : Array Value) : slicePick items none none (some 1) = items.toList.toArray := by
  have e1 : sliceBounds none none (some 1) items.size = (0, (items.size : Int), 1) := by
    first
    | rfl
    | simp [sliceBounds]
  have e2 : sliceRange 0 (items.size : Int) 1 = List.range items.size := by
    unfold sliceRange
    by_cases h : (0 : Int) < (items.size : Int)
    · have e : ((items.size : Int) - 0 + 1 - 1) / 1 = (items.size : Int) := by rw [Int.ediv_one]; omega
      have h1 : (1 : Int) > 0 := by decide
      simp only [h1, h, if_true, e, Int.toNat_natCast]
      have : (List.range items.size).map (fun (k : Nat) => ((0 : Int) + 1 * (k : Int)).toNat) = (List.range items.size).map id := by
        apply List.map_congr_left
        intro k _
        show ((0 : Int) + 1 * (k : Int)).toNat = k
        omega
      rw [this, List.map_id]
    · have e : items.size = 0 := by omega
      rw [e]
      rfl
  unfold slicePick
  rw [e1]
  show ((sliceRange 0 (items.size : Int) 1).filterMap (items[·]?)).toArray = _
  rw [e2, PySem.W.krv_all]
section
variable {X : Cx}
def tStp (K : PySem.W.Frag) (te ts : TE) : TE := fun σ H Q => te σ H fun x H1 => tPart ts σ H1 fun o H2 => ∃ k, o = some k ∧ ∃ a xs, x = .ref a ∧ SqL K H2 a xs ∧
  ((k = 1 ∧ ∀ p, H2 p = none → Q (.ref p) (upd H2 p (.lst xs))) ∨ (k = -1 ∧ ∀ p, H2 p = none → Q (.ref p) (upd H2 p (.lst xs.reverse))))
theorem pe_stp {e st : Expr} {te ts : TE} {p3 pos : Pos} (he : PE X e te) (hs : PE X st ts) : PE X (.Subscript e (.Slice none none (some st) p3) pos) (tStp X.K te ts) := by
  refine ⟨fun pins s σ H Q I h => ?_⟩
  refine Subscript_ (thn (he.run pins s σ H _ I h) fun v s1 ⟨x, H1, I1, r1, q1⟩ => ?_)
  have hst : PO X (some st) (tPart ts) := po_some hs
  refine wpAny_Slice (thn (po_none.run pins s1 σ H1 (fun o H2 => o = none ∧ H2 = H1) I1 ⟨rfl, rfl⟩) fun vl s2 ⟨l, H2, I2, pl, el, e2⟩ => ?_)
  subst el e2
  refine thn (po_none.run pins s2 σ H2 (fun o H3 => o = none ∧ H3 = H2) I2 ⟨rfl, rfl⟩) fun vu s3 ⟨u, H3, I3, pu, eu, e3⟩ => ?_
  subst eu e3
  refine thn (hst.run pins s3 σ H3 _ I3 q1) fun vs s4 ⟨o, H4, I4, ps, k, eo, a, xs, ex, hx, q⟩ => ?_
  subst eo ex
  cases r1
  have I5 : Inv X pins σ H4 { s4 with heap := s4.heap.push { cls := .type "slice", data := .fields #[vl, vu, vs] } } := I4.kept (t' := s4.toks) fun b ob z => Heap.get?_push_of_some _ z
  obtain ⟨its, r, ht, hz⟩ := I5.list hx
  have hlen := r.length
  show wpAny (model X.prog X.w) X.A (subscriptTail e (.Slice none none (some st) p3) (.ref a) (.ref s4.heap.objs.size)) (EP X pins σ Q) X.xe { s4 with heap := s4.heap.push { cls := .type "slice", data := .fields #[vl, vu, vs] } }
  refine tail_any (ops := [.ref a, .ref s4.heap.objs.size]) ht.isList.typeIs (PySem.slot_list_getitem.lookup) ?_ (by with_unfolding_all rfl)
  rcases q with ⟨rfl, q⟩ | ⟨rfl, q⟩
  · refine wpAny_getItem_list_slice ht.isList (Heap.IsSliceOf.new _ vl vu vs) pl pu ps (by decide) ?_ (by rw [List.size_toArray]; omega)
    rw [pick_one]
    exact ⟨.ref _, _, I5.laid (t' := s4.toks) (o := .lst xs) (fun b ob z => Heap.get?_push_of_some _ z) (Nat.le_refl _) ⟨hz, _, 0, r, Heap.get?_push_size _ rfl⟩, rfl, q _ (I5.hok.fresh (Nat.le_refl _))⟩
  · refine wpAny_getItem_list_slice ht.isList (Heap.IsSliceOf.new _ vl vu vs) pl pu ps (by decide) ?_ (by rw [List.size_toArray]; omega)
    rw [PySem.W.krv_pick]
    exact ⟨.ref _, _, I5.laid (t' := s4.toks) (o := .lst xs.reverse) (fun b ob z => Heap.get?_push_of_some _ z) (Nat.le_refl _) ⟨by rw [List.length_reverse]; exact hz, _, 0, r.reverse, Heap.get?_push_size _ rfl⟩, rfl, q _ (I5.hok.fresh (Nat.le_refl _))⟩
end
section
variable {CX : CXT} {G : Gv} {Φ : Nat → Spec} {n : Nat}
theorem snd_lzip {live : Bool} {a b : CE} (ha : Snd CX G Φ n a) (hb : Snd CX G Φ n b) : Snd CX G Φ n (.lzip live a b) := by
  refine sndE _ (fun N k e => match e with
    | .Call (.Name x _) [.Call (.Name y _) [z, w] [] _] [] _ => decide (x = ("list" : Str)) && glC k.sc x && decide (y = ("zip" : Str)) && glC k.sc y && notStar z && notStar w && (ck G N n a).e k z && (ck G N n b).e k w
    | _ => false) rfl (fun N => rfl) (fun N k x hx => ?_) fun {N E k X x} o hN hx => ?_
  · split at hx
    · rfl
    · cases hx
  · split at hx
    · rename_i x p y p2 z w p3 pos
      simp only [Bool.and_eq_true] at hx
      obtain ⟨⟨⟨⟨⟨⟨⟨h1, h2⟩, h3⟩, h4⟩, h5⟩, h5'⟩, h6⟩, h7⟩ := hx
      obtain rfl := of_decide_eq_true h1
      obtain rfl := of_decide_eq_true h3
      refine PE.imp (pe_listZip o.calm (gl_of o h2) (o.g.blt .list) (gl_of o h4) o.g.more.2.1 (pa_cons (ha.e o hN h6) (pa_cons (hb.e o hN h7) pa_nil (star_of h5')) (star_of h5)) (star_of h5) (by rw [star_of h5']; rfl)) fun σ H Q q => ?_
      obtain ⟨h, ρ, S, Q0, Y, s, q, kv, kx⟩ := q
      refine ⟨h, ρ, S, _, Y, s, q, fun w S1 v H1 s1 e1 r1 q1 => ⟨h, ρ, S1, _, Y, s1, q1, fun w2 S2 v2 H2 s2 e2 r2 q2 => ?_, kx.to e1⟩, kx⟩
      obtain ⟨xs, ys, hx1, hy1, q2⟩ := q2
      obtain ⟨a1, us, rfl, b1, c1⟩ := rdL_sq s2.sto (r1.mono e2) hx1
      obtain ⟨a2, vs, rfl, b2, c2⟩ := rdL_sq s2.sto r2 hy1
      refine ⟨a1, a2, us, vs, rfl, b1.sq, b2.sq, fun ts p hl nd hn hp hpt => ?_⟩
      obtain ⟨z1, z2, z3⟩ := zip_new ts s2.sto c1 c2 hl nd hn
      have s3 := s2.to z2 z1
      exact (kv.to ((e1.trans e2).trans z2)).newLst s3 z3 q2 p (by rw [putP_out _ _ _ hpt]; exact hp)
    · cases hx
theorem snd_stp {live : Bool} {a b : CE} (ha : Snd CX G Φ n a) (hb : Snd CX G Φ n b) : Snd CX G Φ n (.stp live a b) := by
  refine sndE _ (fun N k e => match e with | .Subscript v (.Slice none none (some t) _) _ => (ck G N n a).e k v && (ck G N n b).e k t | _ => false) rfl (fun N => rfl) (fun N k x hx => ?_) fun {N E k X x} o hN hx => ?_
  · split at hx
    · rfl
    · cases hx
  · split at hx
    · simp only [Bool.and_eq_true] at hx
      refine PE.imp (pe_stp (ha.e o hN hx.1) (hb.e o hN hx.2)) fun σ H Q q => ?_
      obtain ⟨h, ρ, S, Q0, Y, s, q, kv, kx⟩ := q
      refine ⟨h, ρ, S, _, Y, s, q, fun w S1 v H1 s1 e1 r1 q1 => ⟨h, ρ, S1, _, Y, s1, q1, fun w2 S2 v2 H2 s2 e2 r2 q2 => ?_, kx.to e1⟩, kx⟩
      obtain ⟨ws, k', hw, rfl, q2⟩ := q2
      obtain ⟨a1, us, rfl, b1, c1⟩ := rdL_sq s2.sto (r1.mono e2) hw
      cases r2
      have kv2 := kv.to (e1.trans e2)
      exact ⟨k', rfl, k', rfl, a1, us, rfl, b1.sq, q2.imp (fun z => ⟨z.1, kv2.newLst s2 c1 z.2⟩) fun z => ⟨z.1, kv2.newLst s2 c1.reverse z.2⟩⟩
    · cases hx
/-- pairs of numbers as they stand -/
theorem pairs_v {K : KH} {S : Sto} {H : Hp} : ∀ {ws : List W} {ks : List (Int × Int)} {vs : List V}, pairsW ws = some ks → RepL K (fz S H) ws vs →
    ∃ ps : List (Addr × List Int), vs = ps.map (fun p => V.ref p.1) ∧ ps.map (·.2) = ks.map (fun p => [p.1, p.2]) ∧ ∀ p ∈ ps, H p.1 = some (.tup (p.2.map V.int)) ∧ S p.1 = none ∧ K.h p.1 = false
  | [], _, _, h, .nil => by cases h; exact ⟨[], rfl, rfl, fun p hp => nomatch hp⟩
  | w :: ws, ks, _, h, .cons a b => by
    unfold pairsW at h
    split at h
    · rename_i e; cases e
    · rename_i i j us e
      cases e
      cases a with
      | tup nk ht rr =>
        obtain _ | ⟨rk, _ | ⟨rv, _ | _⟩⟩ := rr
        cases rk
        cases rv
        cases er : pairsW ws with
        | none => rw [er] at h; cases h
        | some ks' =>
          rw [er] at h
          cases h
          obtain ⟨ps, e1, e2, e3⟩ := pairs_v er b
          obtain ⟨hs, hH⟩ := fz_some ht
          refine ⟨(_, [i, j]) :: ps, by rw [e1]; rfl, by rw [List.map_cons, e2]; rfl, fun p hp => ?_⟩
          rcases List.mem_cons.mp hp with rfl | hp
          · exact ⟨hH, hs, nk⟩
          · exact e3 p hp
    · cases h
theorem lex_of {L : List (Addr × List Int)} (hb : ∀ p ∈ L, ∃ i j : Int, p.2 = [i, j] ∧ (0 ≤ i ∧ i < 64) ∧ (0 ≤ j ∧ j < 64)) (nd : (L.map (·.2)).Nodup) (pw : L.Pairwise fun q r => TS.code 64 q.2 ≤ TS.code 64 r.2) :
    ∃ ks : List (Int × Int), L.map (·.2) = ks.map (fun p => [p.1, p.2]) ∧ ks.Pairwise lexP := by
  induction L with
  | nil => exact ⟨[], rfl, .nil⟩
  | cons p L ih =>
    obtain ⟨n1, n2⟩ := List.nodup_cons.mp nd
    obtain ⟨w1, w2⟩ := List.pairwise_cons.mp pw
    obtain ⟨ks, e1, e2⟩ := ih (fun q hq => hb q (List.mem_cons_of_mem _ hq)) n2 w2
    obtain ⟨i, j, e, bi, bj⟩ := hb p List.mem_cons_self
    refine ⟨(i, j) :: ks, by rw [List.map_cons, List.map_cons, e, e1], List.pairwise_cons.mpr ⟨fun q hq => ?_, e2⟩⟩
    have hq' : ([q.1, q.2] : List Int) ∈ L.map (·.2) := by rw [e1]; exact List.mem_map.mpr ⟨q, hq, rfl⟩
    obtain ⟨r, hr, er⟩ := List.mem_map.mp hq'
    obtain ⟨i', j', e', bi', bj'⟩ := hb r (List.mem_cons_of_mem _ hr)
    rw [er] at e'
    cases e'
    have c := w1 r hr
    rw [e, er] at c
    exact pair_lt c (fun z => n1 (by show p.2 ∈ L.map (·.2); rw [e, z]; exact hq')) bi bj bi' bj'
theorem rep_pairs {K : KH} {F : Hp} : ∀ {L : List (Addr × List Int)} {ks : List (Int × Int)}, L.map (·.2) = ks.map (fun p => [p.1, p.2]) → (∀ p ∈ L, F p.1 = some (.tup (p.2.map V.int)) ∧ K.h p.1 = false) → RepL K F (ks.map pairW) (L.map fun q => V.ref q.1)
  | [], [], _, _ => .nil
  | [], _ :: _, h, _ => by simp at h
  | _ :: _, [], h, _ => by simp at h
  | p :: L, k :: ks, h, hp => by
    rw [List.map_cons, List.map_cons] at h
    injection h with h1 h2
    obtain ⟨a, b⟩ := hp p List.mem_cons_self
    rw [h1] at a
    exact .cons (.tup b a (.cons (.int _) (.cons (.int _) .nil))) (rep_pairs h2 fun q hq => hp q (List.mem_cons_of_mem _ hq))
theorem snd_sset {live : Bool} {a : CE} (ha : Snd CX G Φ n a) : Snd CX G Φ n (.sset live a) := by
  refine sndE _ (fun N k e => match e with
    | .Call (.Name x _) [.Call (.Name y _) [z] [] _] [] _ => decide (x = ("sorted" : Str)) && glC k.sc x && decide (y = ("set" : Str)) && glC k.sc y && notStar z && (ck G N n a).e k z
    | _ => false) rfl (fun N => rfl) (fun N k x hx => ?_) fun {N E k X x} o hN hx => ?_
  · split at hx
    · rfl
    · cases hx
  · split at hx
    · rename_i x p y p2 z p3 pos
      simp only [Bool.and_eq_true] at hx
      obtain ⟨⟨⟨⟨⟨h1, h2⟩, h3⟩, h4⟩, h5⟩, h6⟩ := hx
      obtain rfl := of_decide_eq_true h1
      obtain rfl := of_decide_eq_true h3
      have hu := units_of o.room
      refine PE.imp (pe_callB (cr_sortedT o.calm) (gl_of o h2) o.g.more.2.2.2.2.2.1 PyProof.Rows.boot_sorted (pa_cons (pe_callTy (cr_setOfT o.calm (by omega)) (gl_of o h4) o.g.more.2.2.2.2.1 PyProof.Rows.boot_set (pa_cons (ha.e o hN h6) pa_nil (star_of h5)) (by decide) (by decide) (star_of h5) rfl) pa_nil rfl) (by decide) (by decide) rfl rfl) fun σ H Q q => ?_
      obtain ⟨h, ρ, S, Q0, Y, s, q, kv, kx⟩ := q
      refine ⟨h, ρ, S, _, Y, s, q, fun w S1 v H1 s1 e1 r1 q1 => ?_, kx⟩
      obtain ⟨ws, ks, hw, hk, h64, hb, q1⟩ := q1
      obtain ⟨a1, us, rfl, b1, c1⟩ := rdL_sq s1.sto r1 hw
      obtain ⟨ps, rfl, e2, e3⟩ := pairs_v hk c1
      have hl : ps.length = ks.length := by
        have := congrArg List.length e2
        rw [List.length_map, List.length_map] at this
        exact this
      have memk : ∀ q, q ∈ ps → ∃ z ∈ ks, q.2 = [z.1, z.2] := fun q hq => by
        have : q.2 ∈ ks.map (fun p => [p.1, p.2]) := by rw [← e2]; exact List.mem_map.mpr ⟨q, hq, rfl⟩
        obtain ⟨z, hz, ez⟩ := List.mem_map.mp this
        exact ⟨z, hz, ez.symm⟩
      refine ⟨a1, ps, rfl, b1.sq, fun q hq => .of (e3 q hq).1, by omega, fun A L hA hL1 hL2 => ?_⟩
      have kA := s1.sto.new (o := SetTO X.prog X.w A L) hA
      have smA := same_new (o := SetTO X.prog X.w A L) s1.sto hA
      have s2 := s1.to smA kA
      have neA : ∀ q ∈ ps, q.1 ≠ A := fun q hq z => by
        have := (e3 q hq).1
        rw [z, hA] at this
        cases this
      have stay : ∀ q ∈ ps, (upd H1 A (SetTO X.prog X.w A L)) q.1 = some (.tup (q.2.map V.int)) := fun q hq => by rw [upd_ne (neA q hq)]; exact (e3 q hq).1
      refine ⟨A, L, 2, 64, rfl, upd_same, fun q hq => .of (stay q (hL1 q hq)), by decide, fun q hq => ?_, fun L' B pm nd _ pw hB => ?_⟩
      · obtain ⟨z, hz, ez⟩ := memk q (hL1 q hq)
        rw [ez]
        refine ⟨rfl, fun m hm => ?_⟩
        rcases List.mem_cons.mp hm with rfl | hm
        · exact (hb z hz).1
        · rw [List.mem_singleton.mp hm]
          exact (hb z hz).2
      · have inP : ∀ q ∈ L', q ∈ ps := fun q hq => hL1 q (pm.mem_iff.mp hq)
        obtain ⟨ks', f1, f2⟩ := lex_of (L := L') (fun q hq => by
          obtain ⟨z, hz, ez⟩ := memk q (inP q hq)
          exact ⟨z.1, z.2, ez, (hb z hz).1, (hb z hz).2⟩) nd pw
        have same : ∀ p, p ∈ ks' ↔ p ∈ ks := fun p => by
          constructor
          · intro hp
            have : ([p.1, p.2] : List Int) ∈ L'.map (·.2) := by rw [f1]; exact List.mem_map.mpr ⟨p, hp, rfl⟩
            obtain ⟨q, hq, eq⟩ := List.mem_map.mp this
            obtain ⟨z, hz, ez⟩ := memk q (inP q hq)
            rw [eq] at ez
            injection ez with z1 z2
            injection z2 with z2 _
            have : p = z := Prod.ext z1 z2
            rw [this]
            exact hz
          · intro hp
            have : ([p.1, p.2] : List Int) ∈ ps.map (·.2) := by rw [e2]; exact List.mem_map.mpr ⟨p, hp, rfl⟩
            obtain ⟨q, hq, eq⟩ := List.mem_map.mp this
            have h3 := hL2 q hq
            obtain ⟨r, hr, er⟩ := List.mem_map.mp h3
            have h4 : r.2 ∈ ks'.map (fun p => [p.1, p.2]) := by rw [← f1]; exact List.mem_map.mpr ⟨r, pm.mem_iff.mpr hr, rfl⟩
            obtain ⟨z, hz, ez⟩ := List.mem_map.mp h4
            have ez' : [z.1, z.2] = r.2 := ez
            rw [er, eq] at ez'
            injection ez' with z1 z2
            injection z2 with z2 _
            have : z = p := Prod.ext z1 z2
            rw [← this]
            exact hz
        refine (kv.to (e1.trans smA)).newLst s2 (rep_pairs f1 fun q hq => ?_) (q1 ks' f2 same) B hB
        have := inP q hq
        exact ⟨by rw [fz_none (e3 q this).2.1]; exact stay q this, (e3 q this).2.2⟩
    · cases hx
end
end MP

set_option Elab.async false
set_option linter.all false
set_option maxRecDepth 100000
set_option maxHeartbeats 4000000
/-! MR: repr of a tuple of three, the last one a dict: the text of its data. -/
namespace MP
open PySem PySem.Spec PyProof.Rows L2
section
variable {prog : Program} {w : World} {A : Around} {E : Value → Shared → Prop} {s : Shared} {Q : Value → Shared → Prop}
theorem repr_three {a : Addr} {o : Obj} {n : Nat} {u v x : Value} {d e f : PyData} {as bs cs : List Addr} (ho : s.heap.get? a = some o) (hc : o.cls = .type "tuple") (hd : o.data = .seq #[u, v, x] n)
    (ru : Reads s.heap u d as) (rv : Reads s.heap v e bs) (rx : Reads s.heap x f cs) (nd : d.hasDict = false) (ne : e.hasDict = false) (nf : sysModules ∉ cs) (sd : d.showable = true) (se : e.showable = true) (sf : f.showable = true)
    (hz : (PyData.tuple [d, e, f]).shown.length ≤ sizeLine) (hg : A.guards = some []) (hu : A.units + ((PyData.tuple [d, e, f]).depth + 1) < cLine)
    (hQ : ∀ h' t tk, (∀ b o, s.heap.get? b = some o → h'.get? b = some o) → Q (.str (PyData.tuple [d, e, f]).shown t) { s with heap := h', toks := tk }) : wpAny (model prog w) A (call (.builtin "repr") [.ref a]) Q E s := by
  have hz' : (tupleText [d.shown, e.shown, f.shown]).length ≤ sizeLine := by simpa only [PyData.shown, PyData.shownAll] using hz
  have le : ∀ t ∈ [d.shown, e.shown, f.shown], t.length ≤ sizeLine := fun t ht => Nat.le_trans (tupleText_mem_le ht) hz'
  obtain ⟨b1, m1, k1⟩ := ReprK.of_reads (prog := prog) (w := w) ru sd (fun z => by rw [nd] at z; cases z) (le _ (by simp))
  obtain ⟨b2, m2, k2⟩ := ReprK.of_reads (prog := prog) (w := w) rv se (fun z => by rw [ne] at z; cases z) (le _ (by simp))
  obtain ⟨b3, m3, k3⟩ := ReprK.of_reads (prog := prog) (w := w) rx sf (fun _ => nf) (le _ (by simp))
  have hD : (PyData.tuple [d, e, f]).depth = max d.depth (max e.depth (max f.depth 0)) + 1 := rfl
  have all : ReprAllK prog w (b1 ++ b2 ++ b3) s.heap (max d.depth (max e.depth (max f.depth 0))) [u, v, x] [d.shown, e.shown, f.shown] := by
    have t1 := ReprAllK.more_le (as' := b1 ++ b2 ++ b3) (d' := max d.depth (max e.depth (max f.depth 0))) (fun b hb => by simp [hb]) (by omega) (ReprAllK.cons k1 .nil)
    have t2 := ReprAllK.more_le (as' := b1 ++ b2 ++ b3) (d' := max d.depth (max e.depth (max f.depth 0))) (fun b hb => by simp [hb]) (by omega) (ReprAllK.cons k2 .nil)
    have t3 := ReprAllK.more_le (as' := b1 ++ b2 ++ b3) (d' := max d.depth (max e.depth (max f.depth 0))) (fun b hb => by simp [hb]) (by omega) (ReprAllK.cons k3 .nil)
    cases t1 with
    | cons q1 _ =>
      cases t2 with
      | cons q2 _ => exact .cons q1 (.cons q2 t3)
  have hr : Reads s.heap (.ref a) (.tuple [d, e, f]) (as ++ (bs ++ (cs ++ []))) := .tuple ho hc hd (.cons ru (.cons rv (.cons rx .nil)))
  have most : ReadAtMost s.heap (max d.depth (max e.depth (max f.depth 0))) (b1 ++ b2 ++ b3) := ((m1.mono (by omega)).append (m2.mono (by omega))).append (m3.mono (by omega))
  have notin : a ∉ b1 ++ b2 ++ b3 := not_mem_of_deeper hr (by rw [hD]; omega) most
  refine call_repr_slot (by omega) ⟨o, ho, hc⟩ F.slot_tuple_repr (call_tuple_reprK (A := A.in1) ho hc hd notin all hg (fun b _ => Clear.nil b) (by show A.units + 1 + _ < _; rw [hD] at hu; omega) (fun _ _ z => z) (fun h' t tk hk => ⟨_, _, rfl, ?_⟩) hz')
  have := hQ h' t tk hk
  simpa only [PyData.shown, PyData.shownAll] using this
end
end MP

set_option Elab.async false
set_option linter.all false
set_option maxRecDepth 100000
set_option maxHeartbeats 4000000
/-! MR2: a dict with tuples for keys, read as data. -/
namespace MP
open PySem PySem.Spec PyProof.Rows L2
theorem key1_reads {h : Heap} {k : Key} {u : Value} (r : RelV (kV k) u) : Reads h u (keyD1 k) [] := by
  cases k with
  | inl i => obtain ⟨t, rfl⟩ := (show ∃ t, u = Value.int i t from r); exact .int i t
  | inr x => obtain ⟨t, rfl⟩ := (show ∃ t, u = Value.str x t from r); exact .str x t
theorem keys_reads {h : Heap} : ∀ {ks : List Key} {us : List Value}, Vals (ks.map kV) us → ReadsAll h us (ks.map keyD1) []
  | [], _, r => by cases r; exact .nil
  | k :: ks, _, r => by
    rw [List.map_cons] at r
    cases r with
    | cons a b => exact .cons (as := []) (bs := []) (key1_reads a) (keys_reads b)
theorem ints_reads {h : Heap} : ∀ {is : List Int} {us : List Value}, Vals (is.map V.int) us → ReadsAll h us (is.map PyData.int) []
  | [], _, r => by cases r; exact .nil
  | i :: is, _, r => by
    rw [List.map_cons] at r
    cases r with
    | cons a b =>
      obtain ⟨t, rfl⟩ := a
      exact .cons (as := []) (bs := []) (.int i t) (ints_reads b)
section
variable {X : Cx} {pins : List (Addr × Obj)} {σ : L2.St} {H : Hp} {s : Shared}
theorem kt_keys (I : Inv X pins σ H s) : ∀ {kvs : List (List Key × V)} {xs : List (List Key × Addr × Value)}, KT H kvs xs → ReadsAll s.heap (xs.map fun x => Value.ref x.2.1) (kvs.map fun kv => keyD kv.1) [] ∧ Vals (kvs.map (·.2)) (xs.map fun x => x.2.2)
  | _, _, .nil => ⟨.nil, .nil⟩
  | _, _, .cons h t => by
    obtain ⟨r1, r2⟩ := kt_keys I t
    obtain ⟨h1, h2, h3⟩ := h
    obtain ⟨its, rv, ⟨o, e1, e2, n, e3⟩, _⟩ := I.tuple (SqT.of h2)
    exact ⟨.cons (as := []) (bs := []) (.tuple e1 e2 e3 (by simpa using keys_reads rv)) r1, .cons h3 r2⟩
theorem dt_reads (I : Inv X pins σ H s) {p : Addr} {kis : List (List Key × Int)} (h : Rd H p (.dT (kis.map fun ki => (ki.1, V.int ki.2)))) : Reads s.heap (.ref p) (dtD kis) [p] ∧ sysModules ∉ [p] := by
  obtain ⟨_, lo, xs, kt, o, es, ep, ho, ex, hd, he, _, _⟩ := dt_rd I.hok h
  obtain ⟨r1, r2⟩ := kt_keys I kt
  have ev : (kis.map fun ki => (ki.1, V.int ki.2)).map (·.2) = (kis.map (·.2)).map V.int := by rw [List.map_map, List.map_map]; rfl
  rw [ev] at r2
  have ek : (kis.map fun ki => (ki.1, V.int ki.2)).map (fun kv => keyD kv.1) = kis.map fun ki => keyD ki.1 := by rw [List.map_map]; rfl
  rw [ek] at r1
  have e1 : es.toList.map (·.key) = xs.map fun x => Value.ref x.2.1 := by rw [he, List.map_map]; rfl
  have e2 : es.toList.map (·.val) = xs.map fun x => x.2.2 := by rw [he, List.map_map]; rfl
  have k1 : (kis.map fun ki => (keyD ki.1, PyData.int ki.2)).map (·.1) = kis.map fun ki => keyD ki.1 := by rw [List.map_map]; rfl
  have k2 : (kis.map fun ki => (keyD ki.1, PyData.int ki.2)).map (·.2) = (kis.map (·.2)).map PyData.int := by rw [List.map_map, List.map_map]; rfl
  refine ⟨.dict (as := []) (bs := []) ho ex.1 hd (by rw [e1, k1]; exact r1) (by rw [e2, k2]; exact ints_reads r2), fun z => ?_⟩
  rw [List.mem_singleton.mp z] at lo
  exact absurd (beq_self_eq_true p) (by rw [lo]; exact Bool.false_ne_true)
end
end MP

set_option Elab.async false
set_option linter.all false
set_option maxRecDepth 100000
set_option maxHeartbeats 4000000
/-! MP10c: repr of a tuple of three as an expression. -/
namespace MP
open PySem PySem.Spec PyProof.Rows L2
theorem boot_rpr : bootBuiltins "repr" = some (.builtin "repr") := by decide +kernel
def rRpr (K : PySem.W.Frag) : List V → Hp → VK → Prop := fun vs H Q => ∃ (a p : Addr) (vt vd : V) (dt dd : PyData) (kis : List (List Key × Int)), vs = [.ref a] ∧ H a = some (.tup [vt, vd, .ref p]) ∧ Dp K H vt dt ∧ Dp K H vd dd ∧
  Rd H p (.dT (kis.map fun ki => (ki.1, V.int ki.2))) ∧ dt.canLay0 = true ∧ dd.canLay0 = true ∧ dt.showable = true ∧ dd.showable = true ∧ (dtD kis).showable = true ∧
  (PyData.tuple [dt, dd, dtD kis]).shown.length ≤ sizeLine ∧ (PyData.tuple [dt, dd, dtD kis]).depth ≤ 60 ∧ Q (.str (PyData.tuple [dt, dd, dtD kis]).shown) H
theorem call_rpr {X : Cx} (hg : X.A.guards = some []) (hu : X.A.units + 65 < cLine) : CallR X (.builtin "repr") (rRpr X.K) := by
  intro pins s σ H xs us Q I r h
  obtain ⟨a, p, vt, vd, dt, dd, kis, rfl, ha, ht, hd, hp, c1, c2, s1, s2, s3, hz, hdp, q⟩ := h
  obtain ⟨u, rfl, ru⟩ := r.one
  cases ru
  obtain ⟨its, rv, ⟨o, e1, e2, n, e3⟩, _⟩ := I.tuple (SqT.of ha)
  cases rv with
  | cons r1 rr =>
    cases rr with
    | cons r2 rr =>
      cases rr with
      | cons r3 rr =>
        cases rr
        cases r3
        obtain ⟨as, d1⟩ := Dp.reads I dt vt _ ht r1
        obtain ⟨bs, d2⟩ := Dp.reads I dd vd _ hd r2
        obtain ⟨d3, n3⟩ := dt_reads I hp
        exact repr_three e1 e2 e3 d1 d2 d3 (PyData.hasDict_of_canLay dt c1) (PyData.hasDict_of_canLay dd c2) n3 s1 s2 s3 hz hg (by omega) fun h' t tk hk => ⟨.str _, H, I.kept hk, ⟨t, rfl⟩, q⟩
theorem kvr_ints {K : KH} {F : Hp} : ∀ {kis : List (List Key × Int)} {kv' : List (List Key × V)}, KVR K F (kis.map fun ki => (ki.1, W.int ki.2)) kv' → kv' = kis.map fun ki => (ki.1, V.int ki.2)
  | [], _, .nil => rfl
  | ki :: kis, _, .cons (b := q) h t => by
    obtain ⟨h1, h2⟩ := h
    obtain ⟨qk, qv⟩ := q
    cases h1
    cases h2
    rw [kvr_ints t]
    rfl
section
variable {CX : CXT} {G : Gv} {Φ : Nat → Spec} {n : Nat}
theorem snd_rpr {a : CE} (ha : Snd CX G Φ n a) : Snd CX G Φ n (.rpr a) := by
  refine sndE _ (fun N k e => match e with
    | .Call (.Name x _) [z] [] _ => G.rp && decide (x = ("repr" : Str)) && glC k.sc x && notStar z && (ck G N n a).e k z
    | _ => false) rfl (fun N => rfl) (fun N k x hx => ?_) fun {N E k X x} o hN hx => ?_
  · split at hx
    · rfl
    · cases hx
  · split at hx
    · rename_i x p z pos
      simp only [Bool.and_eq_true] at hx
      obtain ⟨⟨⟨⟨h1, h2⟩, h3⟩, h4⟩, h5⟩ := hx
      obtain rfl := of_decide_eq_true h2
      refine PE.imp (pe_callB (call_rpr (o.gd h1) (units_of o.room)) (gl_of o h3) (o.rpn h1) boot_rpr (pa_cons (ha.e o hN h5) pa_nil (star_of h4)) (by decide) (by decide) (star_of h4) rfl) fun σ H Q q => ?_
      obtain ⟨h, ρ, S, Q0, Y, s, q, kv, kx⟩ := q
      refine ⟨h, ρ, S, _, Y, s, q, fun w S1 v H1 s1 e1 r1 q1 => ?_, kx⟩
      obtain ⟨t, d, p, dt, dd, kis, rfl, ht, hd, hp, c1, c2, s1', s2', s3', hz, hdp, q1⟩ := q1
      obtain ⟨b, vs, rfl, hb, rb⟩ := tup_sq r1
      obtain _ | ⟨r2, _ | ⟨r3, _ | ⟨r4, _ | _⟩⟩⟩ := rb
      cases r4
      obtain ⟨kv', hk1, hk2⟩ := cell_obT s1.sto hp
      rw [kvr_ints hk2] at hk1
      exact ⟨b, p, _, _, dt, dd, kis, rfl, hb, ht.dp s1.sto r2, hd.dp s1.sto r3, hk1, c1, c2, s1', s2', s3', hz, hdp, (kv.to e1).give s1 (.str _) q1⟩
    · cases hx
end
end MP

set_option Elab.async false
set_option linter.all false
set_option maxRecDepth 100000
set_option maxHeartbeats 4000000
/-! MB: sets' tables up to a mask of 511: each slot is met, what is put in is found again, laid anew. -/
namespace MS
open PySem PySem.Spec PyProof.Rows L2
def MaskB (m : Nat) : Prop := MaskOk m ∨ m = 511
theorem MaskB.odd {m : Nat} (h : MaskB m) : m % 2 = 1 := h.elim mask_odd fun e => by rw [e]
theorem MaskB.le {m : Nat} (h : MaskB m) : m ≤ 511 := by rcases h with (e | e | e) | e <;> omega
/-- a piece of the round, in one go -/
def orbL (m : Nat) : Nat → Nat → List Nat
  | 0, _ => []
  | n + 1, x => x :: orbL m n ((x * 5 + 1) % (m + 1))
theorem orb_mem {m y : Nat} : ∀ (n a : Nat), y ∈ orbL m n (lcgN m a) → ∃ b, a ≤ b ∧ b < a + n ∧ lcgN m b = y
  | 0, _, h => nomatch h
  | n + 1, a, h => by
    rcases List.mem_cons.mp h with e | h
    · exact ⟨a, Nat.le_refl _, by omega, e.symm⟩
    · obtain ⟨b, h1, h2, h3⟩ := orb_mem n (a + 1) h
      exact ⟨b, by omega, by omega, h3⟩
theorem orb511 : ((List.range 512).all fun j => (orbL 511 512 0).contains j) = true := by decide +kernel
theorem back511 : lcgN 511 512 = 0 := by decide +kernel
theorem all511 {j : Nat} (h : j ≤ 511) : ∃ b, b ≤ 511 ∧ lcgN 511 b = j := by
  have z := List.all_eq_true.mp orb511 j (List.mem_range.mpr (by omega))
  obtain ⟨b, _, h2, h3⟩ := orb_mem (m := 511) 512 0 (List.contains_iff_mem.mp z)
  exact ⟨b, by omega, h3⟩
theorem far511 : ∀ k, lcgN 511 (512 + k) = lcgN 511 k
  | 0 => back511
  | k + 1 => by
    show (lcgN 511 (512 + k) * 5 + 1) % 512 = (lcgN 511 k * 5 + 1) % 512
    rw [far511 k]
theorem meetB {m i j : Nat} (hm : MaskB m) (hi : i ≤ m) (hj : j ≤ m) : ∃ k, k ≤ m ∧ lcgI m i k = j := by
  rcases hm with hm | rfl
  · exact lcgI_all hm hi hj
  · obtain ⟨a, ha, rfl⟩ := all511 hi
    obtain ⟨b, hb, rfl⟩ := all511 hj
    by_cases c : a ≤ b
    · exact ⟨b - a, by omega, by rw [lcgN_add, show a + (b - a) = b by omega]⟩
    · exact ⟨512 + b - a, by omega, by rw [lcgN_add, show a + (512 + b - a) = 512 + b by omega, far511]⟩
theorem runB {m j : Nat} (hm : MaskB m) (h : Int) (hj : j ≤ m) : ∃ n, n ≤ m + 12 ∧ runI m (SetTable.bits h) n = j := by
  obtain ⟨k, hk, e⟩ := meetB hm (runI_le m (SetTable.bits h) 12) hj
  exact ⟨12 + k, by omega, by rw [runI_tail (bits_lt h)]; exact e⟩
theorem emptyB {m j : Nat} (hm : MaskB m) (h : Int) (hj : j ≤ m) : ∃ k, k < 10 * SetTable.turns m ∧ way m h k = j := by
  obtain ⟨n, hn, e⟩ := runB hm h hj
  obtain ⟨k, hk, e2⟩ := run_nth m (SetTable.bits h) n
  exact ⟨k, by unfold SetTable.turns; omega, (congrArg SetTable.Probe.j e2).trans e⟩
theorem wayB_le {m k : Nat} {h : Int} : way m h k ≤ m := by
  have r := runEnd_bd (show SetTable.bits h % (m + 1) ≤ m from Nat.le_of_lt_succ (Nat.mod_lt _ (Nat.succ_pos _)))
  have z := nth_in (m := m) k (runAt m (SetTable.bits h % (m + 1)) (SetTable.bits h)) (by
    show SetTable.bits h % (m + 1) + (SetTable.runEnd m (SetTable.bits h % (m + 1)) - SetTable.bits h % (m + 1)) ≤ m
    omega)
  exact Nat.le_trans (Nat.le_add_right _ _) z
/-- a table whose rows are found again -/
structure TabB (t : SetTable) (hs : List Int) : Prop where
  ris : Ris t.place.toList
  dm : t.dummies = #[]
  sz : t.place.size = hs.length
  mok : MaskB t.mask
  bd : ∀ x ∈ t.place.toList, x ≤ t.mask
  reach : ∀ (i : Nat) (h : Int) (j : Nat), hs[i]? = some h → t.place.toList[i]? = some j → ∃ k, way t.mask h k = j ∧ ∀ k', k' < k → way t.mask h k' ∈ t.place.toList
variable {t : SetTable} {hs : List Int}
theorem TabB.len (T : TabB t hs) : t.place.toList.length = hs.length := by rw [Array.length_toList]; exact T.sz
theorem TabB.first (T : TabB t hs) (hl : hs.length ≤ t.mask) (h : Int) : ∃ K, K < 10 * SetTable.turns t.mask ∧ way t.mask h K ∉ t.place.toList ∧ ∀ k, k < K → way t.mask h k ∈ t.place.toList := by
  obtain ⟨j, hj, hn⟩ := st_missing t.place.toList (t.mask + 1) (by rw [T.len]; omega)
  obtain ⟨k, hk, e⟩ := emptyB T.mok h (Nat.le_of_lt_succ hj)
  obtain ⟨K, h1, h2, h3⟩ := st_least (p := fun k => way t.mask h k ∉ t.place.toList) k (by show way t.mask h k ∉ _; rw [e]; exact hn)
  exact ⟨K, Nat.lt_of_le_of_lt h1 hk, h2, fun k' hk' => Classical.byContradiction (h3 k' hk')⟩
theorem TabB.before (T : TabB t hs) {h : Int} {K i j : Nat} (hK : way t.mask h K ∉ t.place.toList) (hi : hs[i]? = some h) (hj : t.place.toList[i]? = some j) : ∃ k, k < K ∧ way t.mask h k = j := by
  obtain ⟨k, e, hb⟩ := T.reach i h j hi hj
  refine ⟨k, Nat.lt_of_not_le fun c => hK ?_, e⟩
  rcases Nat.lt_or_eq_of_le c with c | rfl
  · exact hb K c
  · rw [e]; exact List.mem_of_getElem? hj
theorem TabB.put (T : TabB t hs) {h : Int} {K : Nat} (hK : way t.mask h K ∉ t.place.toList) (hb : ∀ k, k < K → way t.mask h k ∈ t.place.toList) {i : Nat} (hi : i = SetTable.below t.place (way t.mask h K)) :
    TabB (t.put (way t.mask h K)).1 (hs.take i ++ h :: hs.drop i) ∧ (t.put (way t.mask h K)).1.fill = hs.length + 1 := by
  have wl : way t.mask h K ≤ t.mask := wayB_le
  have cut := (below_cut T.ris (way t.mask h K)).1
  have pl := put_place t (way t.mask h K)
  rw [← hi] at cut pl
  have i1 : i ≤ t.place.toList.length := by rw [Array.length_toList]; exact cut
  have i2 : i ≤ hs.length := by rw [← T.sz]; exact cut
  have stays : ∀ x, x ∈ t.place.toList → x ∈ (t.put (way t.mask h K)).1.place.toList := fun x hx => by rw [pl]; exact mem_ins.2 (.inr hx)
  have sz : (t.put (way t.mask h K)).1.place.size = hs.length + 1 := by rw [← Array.length_toList, pl, len_ins _ i1, T.len]
  refine ⟨⟨ris_insert T.ris fun e => hK (List.mem_of_getElem? (by rw [Array.getElem?_toList]; exact e)), put_dm T.dm _, by rw [sz, len_ins _ i2], T.mok, fun x hx => ?_, fun n g j h1 h2 => ?_⟩, ?_⟩
  · rw [pl] at hx
    rcases mem_ins.1 hx with rfl | hx
    · exact wl
    · exact T.bd x hx
  · rw [tins_get hs i2] at h1
    rw [pl, tins_get _ i1] at h2
    show ∃ k, way t.mask g k = j ∧ ∀ k', k' < k → way t.mask g k' ∈ (t.put (way t.mask h K)).1.place.toList
    have old : ∀ n, hs[n]? = some g → t.place.toList[n]? = some j → ∃ k, way t.mask g k = j ∧ ∀ k', k' < k → way t.mask g k' ∈ (t.put (way t.mask h K)).1.place.toList := fun n e1 e2 =>
      let ⟨k, a, b⟩ := T.reach n g j e1 e2
      ⟨k, a, fun k' hk => stays _ (b k' hk)⟩
    by_cases c1 : n < i
    · rw [if_pos c1] at h1 h2
      exact old n h1 h2
    · rw [if_neg c1] at h1 h2
      by_cases c2 : n = i
      · rw [if_pos c2] at h1 h2
        cases h1; cases h2
        exact ⟨K, rfl, fun k' hk => stays _ (hb k' hk)⟩
      · rw [if_neg c2] at h1 h2
        exact old _ h1 h2
  · show (t.put (way t.mask h K)).1.place.size + (t.put (way t.mask h K)).1.dummies.size = _
    rw [sz, put_dm T.dm]; rfl
/-! ### laid anew -/
theorem freeB {m : Nat} (hm : MaskB m) (owner : Array (Option Nat)) (h : Int) {j : Nat} (hj : j ≤ m) (hf : oAt owner j = none) :
    ∃ K, SetTable.layClean.free m owner (SetTable.turns m) (SetTable.bits h % (m + 1)) (SetTable.bits h) = some (way m h K) ∧ oAt owner (way m h K) = none ∧ ∀ k, k < K → oAt owner (way m h k) ≠ none := by
  obtain ⟨n, hn, e⟩ := runB hm h hj
  have at_ : way m h (off m (SetTable.bits h % (m + 1)) (SetTable.bits h) n) = j := by
    show (nth m (runAt m _ _) _).j = j
    rw [nth_off, itL_run]; exact e
  obtain ⟨K, k1, k2, k3⟩ := st_least (p := fun k => oAt owner (way m h k) = none) _ (by show oAt owner (way m h _) = none; rw [at_]; exact hf)
  refine ⟨K, free_spec m owner (SetTable.turns m) n _ _ K (by unfold SetTable.turns; omega) k1 (fun k hk => ?_) (by rw [show oAt owner (nth m (runAt m (SetTable.bits h % (m + 1)) (SetTable.bits h)) K).j = none from k2]; rfl), k2, k3⟩
  have z := k3 k hk
  show (oAt owner (way m h k)).isNone = false
  cases y : oAt owner (way m h k) with
  | none => exact absurd y z
  | some _ => rfl
theorem ownB {m : Nat} (hm : MaskB m) {done : List Int} {owner : Array (Option Nat)} (W : Own m done owner) (hl : done.length ≤ m) (h : Int) :
    ∃ j, SetTable.layClean.free m owner (SetTable.turns m) (SetTable.bits h % (m + 1)) (SetTable.bits h) = some j ∧ Own m (done ++ [h]) (owner.setIfInBounds j (some done.length)) := by
  obtain ⟨ps, lp, cover⟩ := W.ps
  obtain ⟨j0, a0, b0⟩ := st_missing ps (m + 1) (by omega)
  have a0 := Nat.le_of_lt_succ a0
  obtain ⟨K, e1, e2, e3⟩ := freeB hm owner h a0 (Classical.byContradiction fun z => b0 (cover j0 a0 z))
  have wl : way m h K ≤ m := wayB_le
  generalize hw : way m h K = x at *
  have self := oAt_set_self (owner := owner) (some done.length) (show x < owner.size by rw [W.sz]; omega)
  have keep : ∀ i, oAt owner i ≠ none → oAt (owner.setIfInBounds x (some done.length)) i ≠ none := fun i hi => by
    by_cases c : i = x
    · rw [c, self]; exact fun e => nomatch e
    · rw [oAt_set_ne _ c]; exact hi
  refine ⟨x, e1, ⟨by rw [Array.size_setIfInBounds]; exact W.sz, fun j k hj e => ?_, fun k hk => ?_, ⟨x :: ps, by rw [List.length_cons, List.length_append, lp]; rfl, fun j hj e => ?_⟩⟩⟩
  · by_cases c : j = x
    · rw [c, self] at e
      cases e
      exact ⟨h, K, by simp, hw.trans c.symm, fun k' hk => keep _ (e3 k' hk)⟩
    · rw [oAt_set_ne _ c] at e
      obtain ⟨g, K', a1, a2, a3⟩ := W.at_ j k hj e
      exact ⟨g, K', by rw [List.getElem?_append_left (List.getElem?_eq_some_iff.mp a1).1]; exact a1, a2, fun k' hk => keep _ (a3 k' hk)⟩
  · by_cases c : k < done.length
    · obtain ⟨j, hj, e⟩ := W.all k c
      exact ⟨j, hj, by rw [oAt_set_ne _ fun z => by rw [z, e2] at e; cases e]; exact e⟩
    · rw [List.length_append, List.length_singleton] at hk
      exact ⟨x, wl, by rw [self, show k = done.length by omega]⟩
  · by_cases c : j = x
    · exact c ▸ List.mem_cons_self
    · rw [oAt_set_ne _ c] at e
      exact List.mem_cons_of_mem _ (cover j hj e)
theorem foldB {m : Nat} (hm : MaskB m) : ∀ (rest done : List Int) (owner : Array (Option Nat)), Own m done owner → done.length + rest.length ≤ m →
    ∃ owner', rest.foldl (stepF m) (some (owner, done.length)) = some (owner', (done ++ rest).length) ∧ Own m (done ++ rest) owner'
  | [], done, owner, W, _ => ⟨owner, by rw [List.append_nil]; rfl, by rw [List.append_nil]; exact W⟩
  | h :: rest, done, owner, W, hl => by
    rw [List.length_cons] at hl
    obtain ⟨j, e, W2⟩ := ownB hm W (by omega) h
    have l1 : (done ++ [h]).length = done.length + 1 := by simp
    obtain ⟨owner', f, W3⟩ := foldB hm rest (done ++ [h]) _ W2 (by omega)
    rw [List.append_assoc, l1] at f
    rw [List.append_assoc] at W3
    exact ⟨owner', by rw [List.foldl_cons, stepF_some e]; exact f, W3⟩
theorem cleanB {m : Nat} (hm : MaskB m) {hs : Array Int} (hn : hs.size ≤ m) : ∃ owner, SetTable.layClean m hs = some owner ∧ Own m hs.toList owner := by
  obtain ⟨owner, f, W⟩ := foldB hm hs.toList [] _ (Own.init m) (by rw [Array.length_toList]; simpa using hn)
  exact ⟨owner, by rw [layClean_eq, show (some (Array.replicate (m + 1) none, 0) : Option (Array (Option Nat) × Nat)) = some (Array.replicate (m + 1) none, ([] : List Int).length) from rfl, f]; rfl, W⟩
theorem laidB (t : SetTable) {hs : Array Int} {wanted M : Nat} (hw : SetTable.sizeAbove wanted - 1 = M) (hM : MaskB M) (hn : hs.size ≤ M) :
    ∃ t' order, t.relaid hs wanted = some (t', order) ∧ order.toList.Perm (List.range hs.size) ∧ TabB t' (order.toList.map fun i => hs.getD i 0) ∧ t'.mask = M ∧ t'.led = t.led := by
  obtain ⟨owner, e, W⟩ := cleanB hM hn
  have inR := ris_live (fun j => owner.getD j none) (List.range (M + 1)) List.pairwise_lt_range
  have r1 : Ris ((liveOf M owner).map (·.1)) := inR.1
  have r2 : ∀ x ∈ (liveOf M owner).map (·.1), x < M + 1 := fun x hx => List.mem_range.mp (inR.2 x hx)
  have l1 : ∀ k, k < hs.size → k ∈ (liveOf M owner).map (·.2) := fun k hk => by
    obtain ⟨j, a, b⟩ := W.all k (by rw [Array.length_toList]; exact hk)
    exact List.mem_map.mpr ⟨(j, k), (mem_live W.sz).2 ⟨a, b⟩, rfl⟩
  have hl : (liveOf M owner).length = hs.size := by
    obtain ⟨ps, p1, p2⟩ := W.ps
    have nd : ((liveOf M owner).map (·.1)).Nodup := List.Pairwise.imp (fun h => Nat.ne_of_lt h) r1
    have a := nat_nodup_len ((liveOf M owner).map (·.1)) ps nd fun x hx => by
      obtain ⟨⟨y, k⟩, hq, rfl⟩ := List.mem_map.mp hx
      obtain ⟨b1, b2⟩ := (mem_live W.sz).1 hq
      exact p2 y b1 (by rw [b2]; exact fun z => nomatch z)
    have b := nat_nodup_len (List.range hs.size) ((liveOf M owner).map (·.2)) List.nodup_range fun k hk => l1 k (List.mem_range.mp hk)
    rw [List.length_map, p1] at a
    have hz : hs.toList.length = hs.size := Array.length_toList
    rw [List.length_map, List.length_range] at b
    omega
  refine ⟨tabOf t M owner, ((liveOf M owner).map (·.2)).toArray, by rw [relaid_eq, hw, e]; rfl, perm_range hs.size _ (by show ((liveOf M owner).map (·.2)).length = _; rw [List.length_map, hl]) l1, ⟨r1, rfl, ?_, hM, fun x hx => Nat.le_of_lt_succ (r2 x hx), fun i h j h1 h2 => ?_⟩, rfl, rfl⟩
  · show ((liveOf M owner).map (·.1)).toArray.size = (((liveOf M owner).map (·.2)).map fun i => hs.getD i 0).length
    rw [List.size_toArray, List.length_map, List.length_map, List.length_map]
  · have h1 : (((liveOf M owner).map (·.2)).map fun i => hs.getD i 0)[i]? = some h := h1
    have h2 : ((liveOf M owner).map (·.1))[i]? = some j := h2
    obtain ⟨⟨y, k⟩, hq, rfl⟩ : ∃ q, (liveOf M owner)[i]? = some q ∧ q.1 = j := by
      rw [List.getElem?_map] at h2
      exact Option.map_eq_some_iff.mp h2
    rw [List.getElem?_map, List.getElem?_map, hq] at h1
    have eh : hs.getD k 0 = h := Option.some.inj h1
    obtain ⟨b1, b2⟩ := (mem_live W.sz).1 (List.mem_of_getElem? hq)
    obtain ⟨g, K, a1, a2, a3⟩ := W.at_ y k b1 b2
    have eg : hs.getD k 0 = g := by rw [Array.getD_eq_getD_getElem?, ← Array.getElem?_toList, a1]; rfl
    rw [← eh, eg]
    refine ⟨K, a2, fun k' hk => ?_⟩
    cases z : oAt owner (way M g k') with
    | none => exact absurd z (a3 k' hk)
    | some k2 => exact List.mem_map.mpr ⟨(way M g k', k2), (mem_live W.sz).2 ⟨wayB_le, z⟩, rfl⟩
theorem size_308 : SetTable.sizeAbove (SetTable.grown 77) = 512 := by decide +kernel
end MS

set_option Elab.async false
set_option linter.all false
set_option maxRecDepth 100000
set_option maxHeartbeats 4000000
/-! MS: sets of tuples, whatever their items are (numbers, texts): adding, set(xs), its length. -/
namespace MS
open PySem PySem.Spec PyProof.Rows L2
section
variable {P : Program} {w : World} {κ : Type} [DecidableEq κ]
/-- items of which nothing is asked -/
structure Mild (knd : KeyKind P w κ) : Prop where
  cls : ∀ {k : κ} {v : Value} (n : Nat), knd.is k v = true → ofAClassStatement n v = pure false
  val : ∀ {k : κ} {v : Value} (n : Nat), knd.is k v = true → ∃ b, hashByValue n v = pure b
theorem mild_mix : Mild (mixKind P w) where
  cls := fun {k v} n h => by
    cases k with
    | inl i => obtain ⟨t, rfl⟩ := Value.isInt_shape (show Value.isInt i v = true from h); cases n <;> rfl
    | inr x => obtain ⟨t, rfl⟩ := Value.isStrOf_shape (show Value.isStrOf x v = true from h); cases n <;> rfl
  val := fun {k v} n h => by
    cases k with
    | inl i => obtain ⟨t, rfl⟩ := Value.isInt_shape (show Value.isInt i v = true from h); exact ⟨true, by cases n <;> rfl⟩
    | inr x => obtain ⟨t, rfl⟩ := Value.isStrOf_shape (show Value.isStrOf x v = true from h); exact ⟨false, by cases n <;> rfl⟩
variable {knd : KeyKind P w κ} {A : Around} {E : Value → Shared → Prop} {s : Shared}
theorem each_is {ks : List κ} {us : List Value} (h : ItemsAre knd ks us) : ∀ u ∈ us, ∃ k, knd.is k u = true := by
  induction h with
  | nil => exact fun u hu => nomatch hu
  | cons h0 _ ih => exact fun u hu => (List.mem_cons.mp hu).elim (fun e => ⟨_, e ▸ h0⟩) (ih u)
theorem ask_cls (M : Mild knd) {ks : List κ} {b : Addr} {Q : Bool → Shared → Prop} (hb : IsTupleKey knd s.heap ks b) (q : Q false s) : wpAny (model P w) A (ofAClassStatement 8 (.ref b)) Q E s := by
  have ty := hb.typeIs
  obtain ⟨ob, its, m, g1, _, g2, g3⟩ := hb
  unfold ofAClassStatement
  refine wpAny_bind (wpAny_typeOf ty ?_)
  have yes : (("tuple" : String) == "tuple") = true := by decide
  simp only [yes, if_true, Bool.not_true, Bool.false_eq_true, if_false]
  try refine wpAny_bind (wpAny_pure ?_); simp only [Bool.not_true, Bool.false_eq_true, if_false]
  show wpAny _ _ (seqItems? (Value.ref b) >>= _) _ _ s
  refine wpAny_bind (wpAny_seqItems g1 g2 ?_)
  dsimp only
  refine wpAny_bind ?_
  show wpAny _ _ (forIn its _ _) _ _ s
  rw [← Array.forIn_toList]
  refine wpAny_forIn_list _ (fun l r z => r.1 = none ∧ z = s ∧ ∀ u ∈ l, ∃ k, knd.is k u = true) _ (fun u l r z hz => ?_) (fun r z hz => ?_) _ _ ⟨rfl, rfl, each_is g3⟩
  · obtain ⟨_, rfl, all⟩ := hz
    obtain ⟨k, hk⟩ := all u List.mem_cons_self
    rw [M.cls _ hk]
    refine wpAny_bind (wpAny_pure ?_); simp only [Bool.false_eq_true, if_false]
    exact wpAny_pure ⟨rfl, rfl, fun x hx => all x (List.mem_cons_of_mem _ hx)⟩
  · obtain ⟨r1, r2⟩ := r
    obtain ⟨e, rfl, _⟩ := hz
    simp only at e; subst e
    exact wpAny_pure q
theorem ask_val (M : Mild knd) {ks : List κ} {b : Addr} {Q : Bool → Shared → Prop} (hb : IsTupleKey knd s.heap ks b) (q : ∀ v, Q v s) : wpAny (model P w) A (hashByValue 8 (.ref b)) Q E s := by
  have ty := hb.typeIs
  obtain ⟨ob, its, m, g1, _, g2, g3⟩ := hb
  unfold hashByValue
  refine wpAny_bind (wpAny_specialOf ty F.slot_tuple_hash.lookup ?_)
  show wpAny _ _ (seqItems? (Value.ref b) >>= _) _ _ s
  refine wpAny_bind (wpAny_seqItems g1 g2 ?_)
  refine wpAny_bind ?_
  show wpAny _ _ (forIn its _ _) _ _ s
  rw [← Array.forIn_toList]
  refine wpAny_forIn_list _ (fun l r z => r.1 = none ∧ z = s ∧ ∀ u ∈ l, ∃ k, knd.is k u = true) _ (fun u l r z hz => ?_) (fun r z hz => ?_) _ _ ⟨rfl, rfl, each_is g3⟩
  · obtain ⟨_, rfl, all⟩ := hz
    obtain ⟨k, hk⟩ := all u List.mem_cons_self
    obtain ⟨b', hb'⟩ := M.val 7 hk
    rw [hb']
    refine wpAny_bind (wpAny_pure ?_)
    cases b' with
    | true =>
      simp only [Bool.not_true, Bool.false_eq_true, if_false]
      exact wpAny_pure ⟨rfl, rfl, fun x hx => all x (List.mem_cons_of_mem _ hx)⟩
    | false =>
      simp only [Bool.not_false, if_true]
      exact wpAny_pure (wpAny_pure (q _))
  · obtain ⟨r1, r2⟩ := r
    obtain ⟨e, rfl, _⟩ := hz
    simp only at e; subst e
    exact wpAny_pure (q _)
/-- a search among tuples is not seen -/
theorem unseen (M : Mild knd) {ks : List κ} {b : Addr} {Q : Bool → Shared → Prop} (hb : IsTupleKey knd s.heap ks b) {ys : List Value} (hy : ∀ y ∈ ys, ∃ ls c, y = Value.ref c ∧ IsTupleKey knd s.heap ls c) (q : Q false s) :
    wpAny (model P w) A (searchCouldBeSeen (.ref b) ys) Q E s := by
  unfold searchCouldBeSeen
  refine wpAny_bind ?_
  refine wpAny_forIn_list _ (fun l r z => r.1 = none ∧ z = s ∧ ∀ y ∈ l, ∃ ls c, y = Value.ref c ∧ IsTupleKey knd s.heap ls c) _ (fun u l r z hz => ?_) (fun r z hz => ?_) _ _ ⟨rfl, rfl, hy⟩
  · obtain ⟨_, rfl, all⟩ := hz
    obtain ⟨ls, c, rfl, hc⟩ := all u List.mem_cons_self
    have all' := fun x hx => all x (List.mem_cons_of_mem _ hx)
    dsimp only
    by_cases same : (b == c || (carriedByValue (.ref b) && carriedByValue (.ref c))) = true
    · exact wp_if_pos same (wpAny_pure ⟨rfl, rfl, all'⟩)
    · refine wp_if_neg same (wpAny_bind (wpAny_eqIsQuiet_tuple hb ?_)); simp only [Bool.not_true, Bool.false_eq_true, if_false]
      refine wpAny_bind (wpAny_eqIsQuiet_tuple hc ?_); simp only [Bool.not_true, Bool.false_eq_true, if_false]
      refine wpAny_bind (ask_cls M hb ?_); simp only [Bool.false_eq_true, if_false]
      refine wpAny_bind (ask_cls M hc ?_); simp only [Bool.false_eq_true, if_false]
      exact wpAny_pure ⟨rfl, rfl, all'⟩
  · obtain ⟨r1, r2⟩ := r
    obtain ⟨e, rfl, _⟩ := hz
    simp only at e; subst e
    exact wpAny_pure q

/-! ### a set of tuples: where they stand, and their items -/
abbrev Mem (κ : Type) := Addr × List κ
abbrev hs (knd : KeyKind P w κ) (x : Mem κ) : Int := tupleKeyHash knd x.2
abbrev row (knd : KeyKind P w κ) (x : Mem κ) : Int × Value := (hs knd x, Value.ref x.1)
structure Held (knd : KeyKind P w κ) (h : Heap) (S : Addr) (L : List (Mem κ)) (es : Array (Int × Value)) (ep : Nat) (t : SetTable) : Prop where
  obj : ∃ o, h.get? S = some o ∧ o.ExactSet ∧ o.data = .set es ep t
  eq : es.toList = L.map (row knd)
  tab : TabB t (L.map (hs knd))
  nd : (L.map (·.2)).Nodup
  all : ∀ x ∈ L, IsTupleKey knd h x.2 x.1
  led : w.params.followText "set-order" = true ∨ t.led = true
  rm : L.length * 5 < t.mask * 3
  few : L.length < 256
variable {S : Addr} {L : List (Mem κ)} {es : Array (Int × Value)} {ep : Nat} {t : SetTable}
theorem rows_size (e : es.toList = L.map (row knd)) : es.size = L.length := by
  rw [← Array.length_toList, e, List.length_map]
theorem rows_at (e : es.toList = L.map (row knd)) {i : Nat} {x : Mem κ} (h : L[i]? = some x) : es[i]? = some (row knd x) := by
  rw [← Array.getElem?_toList, e, List.getElem?_map, h]; rfl
theorem Held.fit (R : Held knd s.heap S L es ep t) : t.fits es.size = true := by
  have z1 := R.tab.sz
  have z2 := rows_size R.eq
  have z3 := R.rm
  rw [List.length_map] at z1
  unfold SetTable.fits SetTable.fill
  rw [R.tab.dm, Bool.and_eq_true, beq_iff_eq, decide_eq_true_eq]
  exact ⟨by omega, by show t.place.size + 0 ≤ t.mask; omega⟩
theorem Held.stays (R : Held knd s.heap S L es ep t) : ¬ t.gaveWay = true := by
  unfold SetTable.gaveWay
  rw [R.tab.mok.odd]; decide
/-- the c-th step of a hash's way -/
abbrev stp (m : Nat) (h : Int) (c : Nat) : SetTable.Probe := nth m (runAt m (SetTable.bits h % (m + 1)) (SetTable.bits h)) c
theorem stp_add (m : Nat) (h : Int) (c q : Nat) : nth m (stp m h c) q = stp m h (c + q) := (nth_add m c _ q).symm
theorem stp_dummy (m : Nat) (h : Int) (c : Nat) : (stp m h c).dummy = none := by
  have go : ∀ (n : Nat) (p : SetTable.Probe), p.dummy = none → (nth m p n).dummy = none := by
    intro n
    induction n with
    | zero => exact fun _ e => e
    | succ n ih => exact fun p e => ih _ (by unfold adv; split <;> exact e)
  exact go c _ rfl
/-- the search, from the c-th step on: K is the first empty slot's -/
theorem seek (M : Mild knd) (R : Held knd s.heap S L es ep t) {x : Addr} {ks : List κ} (hx : IsTupleKey knd s.heap ks x) (hu : A.units < cLine) {g : Int} (hg : g = tupleKeyHash knd ks) {K : Nat} (lim : K < 10 * SetTable.turns t.mask)
    (free : way t.mask g K ∉ t.place.toList) (busy : ∀ c, c < K → way t.mask g c ∈ t.place.toList) {Q : SetFound → Shared → Prop}
    (q1 : ks ∈ L.map (·.2) → Q (.there none) s) (q2 : ks ∉ L.map (·.2) → Q (.free (way t.mask g K) false) s) :
    ∀ (f c : Nat) (at' : Option SetTable.Probe), at'.getD (t.probeStart g) = stp t.mask g c → c ≤ K → K - c < f →
      (∀ (i : Nat) (y : Mem κ), L[i]? = some y → y.2 = ks → ∃ d, c ≤ d ∧ d < K ∧ t.place.toList[i]? = some (way t.mask g d)) →
      wpAny (model P w) A (setSearchFrom S (.ref x) g true f at') Q E s := by
  obtain ⟨o, o1, o2, o3⟩ := R.obj
  intro f
  induction f with
  | zero => exact fun c at' _ _ z _ => absurd z (Nat.not_lt_zero _)
  | succ f ih =>
    intro c at' hat hc hf hre
    rw [setSearchFrom_succ]
    refine wpAny_bind (wpAny_setState_of o1 o3 R.fit ?_)
    dsimp only
    refine wp_if_neg R.stays ?_
    try refine wpAny_bind (wpAny_pure ?_)
    have jq : ∀ q, (nth t.mask (stp t.mask g c) q).j = way t.mask g (c + q) := fun q => congrArg SetTable.Probe.j (stp_add t.mask g c q)
    have hof : ∀ (i : Nat) (y : Mem κ), L[i]? = some y → (fun i => (es[i]?.map (·.1)).getD 0) i = tupleKeyHash knd y.2 := fun i y hy => by
      show (es[i]?.map (·.1)).getD 0 = _
      rw [rows_at R.eq hy]; rfl
    have way2 := go_spec t R.tab.ris R.tab.dm (fun i => (es[i]?.map (·.1)).getD 0) g (10 * SetTable.turns t.mask) (K - c) (stp t.mask g c) (stp_dummy _ _ _) (by omega)
      (fun q hq => jq q ▸ busy (c + q) (by omega)) (by rw [jq, show c + (K - c) = K by omega]; exact free)
    rcases way2 with ⟨q, i, hq, hi, _, hno, hpr⟩ | ⟨hno, hpr⟩
    · have met : t.probe (fun i => (es[i]?.map (·.1)).getD 0) g (at'.getD (t.probeStart g)) = some (.candidate (way t.mask g (c + q)) i (stp t.mask g (c + (q + 1)))) := by
        rw [hat, ← jq, ← stp_add]; exact hpr
      rw [met]
      dsimp only
      rw [jq] at hi
      have il : i < L.length := by
        have z1 := (List.getElem?_eq_some_iff.mp hi).1
        have z2 := R.tab.sz
        rw [List.length_map] at z2
        rw [Array.length_toList] at z1; omega
      obtain ⟨y, hy⟩ : ∃ y, L[i]? = some y := ⟨_, List.getElem?_eq_getElem il⟩
      have ym := List.mem_of_getElem? hy
      have live : t.slot (way t.mask g (c + q)) = .live i := slot_live R.tab.ris hi
      have behind : wpAny (model P w) A (searchRest S (.ref x) g true f es t (way t.mask g (c + q)) i (stp t.mask g (c + (q + 1)))) Q E s := by
        unfold searchRest
        rw [rows_at R.eq hy]
        dsimp only
        refine wpAny_bind (wpAny_holding (wpAny_eqBool_tuple hu (R.all y ym) hx ?_))
        refine wpAny_bind (wpAny_setState_of o1 o3 R.fit ?_)
        dsimp only
        by_cases yk : y.2 = ks
        · exact wp_if_pos (by simp [yk]) (wpAny_pure (q1 (List.mem_map.mpr ⟨y, ym, yk⟩)))
        · refine wp_if_neg (by simp [yk]) ?_
          try refine wpAny_bind (wpAny_pure ?_)
          rw [L2.sameMem]
          dsimp only
          simp only [if_true, live, rows_at R.eq hy]
          refine wpAny_bind (wpAny_isSame_ref_self (wpAny_bind (wpAny_pure ?_)))
          simp only [if_true]
          refine wp_if_neg (by simp [yk]) (ih (c + (q + 1)) _ rfl (by omega) (by omega) fun i' y' h1 h2 => ?_)
          obtain ⟨d, d1, d2, d3⟩ := hre i' y' h1 h2
          refine ⟨d, ?_, d2, d3⟩
          rcases Nat.lt_trichotomy d (c + q) with z | z | z
          · exact absurd ((hof i' y' h1).trans (by rw [h2, hg])) (hno (d - c) i' (by omega) (by rw [jq, show c + (d - c) = d by omega]; exact d3))
          · rw [z] at d3
            have l2 := slot_live R.tab.ris d3
            rw [live] at l2
            injection l2 with l2
            rw [← l2, hy] at h1
            cases h1
            exact absurd h2 yk
          · omega
      by_cases hl : t.led = true
      · refine wp_if_neg (by simp [hl]) ?_
        try refine wpAny_bind (wpAny_pure ?_)
        exact behind
      · refine wp_if_pos (by simp [hl]) (wpAny_bind (unseen M hx (fun y hy => ?_) ?_))
        · obtain ⟨e, he, rfl⟩ := List.mem_map.mp hy
          have he : e ∈ es.toList := by
            have : e ∈ es ∧ e.1 = g := by simpa using he
            simpa using this.1
          rw [R.eq] at he
          obtain ⟨z, hz, rfl⟩ := List.mem_map.mp he
          exact ⟨z.2, z.1, rfl, R.all z hz⟩
        · refine wp_if_neg (by decide) ?_
          try refine wpAny_bind (wpAny_pure ?_)
          exact behind
    · have met : t.probe (fun i => (es[i]?.map (·.1)).getD 0) g (at'.getD (t.probeStart g)) = some (.empty (way t.mask g K) none) := by
        have e : way t.mask g K = (nth t.mask (stp t.mask g c) (K - c)).j := by rw [jq, show c + (K - c) = K by omega]
        rw [hat, e]; exact hpr
      rw [met]
      dsimp only
      refine wpAny_pure (q2 fun hm => ?_)
      obtain ⟨y, hy, hk⟩ := List.mem_map.mp hm
      obtain ⟨i, hi, e⟩ := List.getElem_of_mem hy
      have hy : L[i]? = some y := by rw [List.getElem?_eq_getElem hi, e]
      obtain ⟨d, d1, d2, d3⟩ := hre i y hy hk
      exact hno (d - c) i (by omega) (by rw [jq, show c + (d - c) = d by omega]; exact d3) ((hof i y hy).trans (by rw [hk, hg]))
/-- .. as adding asks for it -/
theorem seek_add (M : Mild knd) (R : Held knd s.heap S L es ep t) {x : Addr} {ks : List κ} (hx : IsTupleKey knd s.heap ks x) (hu : A.units < cLine) {Q : SetFound → Shared → Prop} (q1 : ks ∈ L.map (·.2) → Q (.there none) s)
    (q2 : ∀ K, ks ∉ L.map (·.2) → way t.mask (tupleKeyHash knd ks) K ∉ t.place.toList → (∀ c, c < K → way t.mask (tupleKeyHash knd ks) c ∈ t.place.toList) → Q (.free (way t.mask (tupleKeyHash knd ks) K) false) s) :
    wpAny (model P w) A (setSearch S (.ref x) (tupleKeyHash knd ks) true) Q E s := by
  have rm := R.rm
  obtain ⟨K, lim, free, busy⟩ := R.tab.first (by rw [List.length_map]; omega) (tupleKeyHash knd ks)
  have small : 10 * SetTable.turns t.mask ≤ 5260 := by
    have := R.tab.mok.le
    unfold SetTable.turns
    omega
  unfold setSearch
  refine seek M R hx hu rfl lim free busy q1 (fun no => q2 K no free busy) 100000 0 none rfl (Nat.zero_le _) (by omega) fun i y hy hk => ?_
  have il : i < t.place.toList.length := by
    have z1 := (List.getElem?_eq_some_iff.mp hy).1
    have z2 := R.tab.sz
    rw [List.length_map] at z2
    rw [Array.length_toList]; omega
  obtain ⟨d, d1, d2⟩ := R.tab.before free (i := i) (by rw [List.getElem?_map, hy, ← hk]; rfl) (List.getElem?_eq_getElem il)
  exact ⟨d, Nat.zero_le _, d1, by rw [List.getElem?_eq_getElem il, d2]⟩
theorem other {h h' : Heap} {ks : List κ} {b : Addr} {o : Obj} (hb : IsTupleKey knd h ks b) (ho : h.get? S = some o) (hd : o.data = .set es ep t) (sb : Heap.SameBut S h h') : IsTupleKey knd h' ks b := by
  obtain ⟨u, its, m, g1, g2, g3, g4⟩ := hb
  refine ⟨u, its, m, (sb.2 b fun e => ?_).trans g1, g2, g3, g4⟩
  rw [e, ho] at g1
  cases g1
  rw [hd] at g3
  cases g3
/-- rows taken in another order -/
theorem reorder (e : es.toList = L.map (row knd)) (ord : Array Nat) (hp : ord.toList.Perm (List.range L.length)) :
    ∃ L2 : List (Mem κ), (ord.filterMap (es[·]?)).toList = L2.map (row knd) ∧ L2.Perm L ∧ L2.map (hs knd) = ord.toList.map fun i => (es.map (·.1)).getD i 0 := by
  have go : ∀ l : List Nat, (∀ i ∈ l, i < L.length) → l.filterMap (es[·]?) = (l.filterMap (L[·]?)).map (row knd) ∧ (l.filterMap (L[·]?)).map (hs knd) = l.map fun i => (es.map (·.1)).getD i 0 := by
    intro l
    induction l with
    | nil => exact fun _ => ⟨rfl, rfl⟩
    | cons i l ih =>
      intro hl
      have hi := hl i List.mem_cons_self
      have a1 := List.getElem?_eq_getElem hi
      have a2 := rows_at e a1
      obtain ⟨b1, b2⟩ := ih fun j hj => hl j (List.mem_cons_of_mem _ hj)
      rw [List.filterMap_cons_some a1, List.filterMap_cons_some a2, b1, List.map_cons, List.map_cons, b2, List.map_cons]
      refine ⟨rfl, ?_⟩
      congr 1
      rw [Array.getD_eq_getD_getElem?, Array.getElem?_map, a2]; rfl
  obtain ⟨b1, b2⟩ := go ord.toList fun i hi => List.mem_range.mp (hp.mem_iff.mp hi)
  refine ⟨ord.toList.filterMap (L[·]?), by rw [Array.toList_filterMap]; exact b1, ?_, b2⟩
  have up : ∀ n, n ≤ L.length → (List.range n).filterMap (L[·]?) = L.take n := by
    intro n
    induction n with
    | zero => exact fun _ => rfl
    | succ n ih =>
      intro hn
      rw [List.range_succ, List.filterMap_append, ih (Nat.le_of_lt hn), List.take_add_one, List.getElem?_eq_getElem hn]
      rw [List.filterMap_cons_some (List.getElem?_eq_getElem hn)]; rfl
  have := hp.filterMap (L[·]?)
  rwa [up L.length (Nat.le_refl _), List.take_length] at this
end
end MS

set_option Elab.async false
set_option linter.all false
set_option maxRecDepth 100000
set_option maxHeartbeats 4000000
/-! MS2: adding to a set of tuples, set(xs), len(set(xs)). -/
namespace MS
open PySem PySem.Spec PyProof.Rows L2
section
variable {P : Program} {w : World} {κ : Type} [DecidableEq κ] {knd : KeyKind P w κ} {A : Around} {E : Value → Shared → Prop} {s : Shared}
variable {S : Addr} {L : List (Mem κ)} {es : Array (Int × Value)} {ep : Nat} {t : SetTable}
theorem tab_same {t t' : SetTable} {l : List Int} (T : TabB t l) (e1 : t'.mask = t.mask) (e2 : t'.place = t.place) (e3 : t'.dummies = t.dummies) : TabB t' l := by
  obtain ⟨a1, a2, a3, a4, a5, a6⟩ := T
  exact ⟨by rw [e2]; exact a1, by rw [e3]; exact a2, by rw [e2]; exact a3, by rw [e1]; exact a4, by rw [e1, e2]; exact a5, by rw [e1, e2]; exact a6⟩
/-- the table laid anew -/
theorem grow {o : Obj} (o1 : s.heap.get? S = some o) (o2 : o.ExactSet) (o3 : o.data = .set es ep t) (eq : es.toList = L.map (row knd)) (pz : t.place.size = es.size) (dm : t.dummies = #[]) (le : es.size ≤ t.mask) (nd : (L.map (·.2)).Nodup)
    (all : ∀ x ∈ L, IsTupleKey knd s.heap x.2 x.1) (led : w.params.followText "set-order" = true ∨ t.led = true) (few : L.length < 256) {n m : Nat} (hm : SetTable.sizeAbove n - 1 = m) (ok : MaskB m) (h128 : SetTable.sizeAbove n ≤ 512) (rm : L.length * 5 < m * 3)
    {Q : Unit → Shared → Prop} (q : ∀ h' L' es' ep' t', Heap.SameBut S s.heap h' → Held knd h' S L' es' ep' t' → L'.Perm L → Q () { s with heap := h' }) : wpAny (model P w) A (setRelay S n) Q E s := by
  have sz := rows_size eq
  have fit : t.fits es.size = true := by
    unfold SetTable.fits SetTable.fill
    rw [dm, Bool.and_eq_true, beq_iff_eq, decide_eq_true_eq]
    exact ⟨pz, by show t.place.size + 0 ≤ t.mask; omega⟩
  obtain ⟨t', ord, r1, r2, T, r3, r4⟩ := laidB t (hs := es.map (·.1)) (wanted := n) hm ok (by rw [Array.size_map]; omega)
  rw [Array.size_map, sz] at r2
  obtain ⟨L2, c1, c2, c3⟩ := reorder eq ord r2
  rw [← c3] at T
  have sz2 : (ord.filterMap (es[·]?)).size = es.size := by rw [rows_size c1, c2.length_eq, sz]
  rw [setRelay_eq]
  refine wpAny_bind (wpAny_setState_of o1 o3 fit ?_)
  dsimp only
  refine wp_if_neg (by rw [sizeLine_eq]; omega) ?_
  try refine wpAny_bind (wpAny_pure ?_)
  rw [r1]
  dsimp only
  refine wpAny_bind (wp_if_neg (by rw [sz2]; simp) ?_)
  first | refine wpAny_bind (wpAny_pure (wpAny_pure ?_)) | refine wpAny_pure ?_
  dsimp only
  refine wpAny_storeSet_of o1 o3 ?_ (by rw [sz2, sz, sizeLine_eq]; omega)
  have sb : Heap.SameBut S s.heap (s.heap.update S (Obj.putSet (ord.filterMap (es[·]?)) t')) := Heap.SameBut.update ..
  exact q _ L2 _ (ep + 1) t' sb ⟨⟨_, store_at o1 o3, ⟨o2.1, o2.2.1, o2.2.2⟩, rfl⟩, c1, T, (c2.map (·.2)).nodup_iff.mpr nd, fun x hx => other (all x (c2.mem_iff.mp hx)) o1 o3 sb, by rw [r4]; exact led, by rw [c2.length_eq, r3]; exact rm, by rw [c2.length_eq]; exact few⟩ c2
/-- one more, or none -/
theorem put1 (M : Mild knd) (R : Held knd s.heap S L es ep t) {x : Addr} {ks : List κ} (hx : IsTupleKey knd s.heap ks x) (hu : A.units < cLine) (few : L.length + 1 < 256) {Q : Bool → Shared → Prop}
    (q : ∀ b h' L' es' ep' t', Heap.SameBut S s.heap h' → Held knd h' S L' es' ep' t' → (ks ∈ L.map (·.2) → L' = L) → (ks ∉ L.map (·.2) → L'.Perm ((x, ks) :: L)) → Q b { s with heap := h' }) :
    wpAny (model P w) A (setAddHashed S (.ref x) (tupleKeyHash knd ks)) Q E s := by
  obtain ⟨o, o1, o2, o3⟩ := R.obj
  have sz := rows_size R.eq
  have rm := R.rm
  unfold setAddHashed
  refine wpAny_holding ?_
  rw [show (100000 : Nat) = 99999 + 1 from rfl, setAddHashedIn_succ]
  refine wpAny_bind (wpAny_setState_of o1 o3 R.fit ?_)
  dsimp only
  refine wp_if_neg (by simp [byScan, Value.scannable]) ?_
  try refine wpAny_bind (wpAny_pure ?_)
  refine wpAny_bind (seek_add M R hx hu (fun hm => ?_) fun K no free busy => ?_)
  · exact wpAny_pure (q false _ L es ep t (Heap.SameBut.refl S s.heap) R (fun _ => rfl) fun z => absurd hm z)
  dsimp only
  refine wpAny_bind (wpAny_setState_of o1 o3 R.fit ?_)
  dsimp only
  obtain ⟨p3, p9⟩ := R.tab.put free busy rfl
  have p1 : (t.put (way t.mask (tupleKeyHash knd ks) K)).2 = SetTable.below t.place (way t.mask (tupleKeyHash knd ks) K) := rfl
  have p4 : (t.put (way t.mask (tupleKeyHash knd ks) K)).1.mask = t.mask := rfl
  have p5 : (t.put (way t.mask (tupleKeyHash knd ks) K)).1.led = t.led := rfl
  generalize hpt : t.put (way t.mask (tupleKeyHash knd ks) K) = pt at p1 p3 p4 p5 p9 ⊢
  obtain ⟨t1, pl⟩ := pt
  dsimp only at p1 p3 p4 p5 p9 ⊢
  subst p1
  have ask : ∀ {F : Bool → Sem Bool}, (∀ v, wpAny (model P w) A (F v) Q E s) → wpAny (model P w) A (if t1.plain = true then hashByValue 8 (.ref x) >>= F else pure true >>= F) Q E s := fun {F} h => by
    by_cases c : t1.plain = true
    · exact wp_if_pos c (wpAny_bind (ask_val M hx h))
    · exact wp_if_neg c (wpAny_bind (wpAny_pure (h true)))
  refine ask fun v => ?_
  obtain ⟨t2, ht2, f1, f2, f3, f4, f5⟩ : ∃ t2, (if v = true then t1 else { t1 with plain := false }) = t2 ∧ t2.mask = t1.mask ∧ t2.place = t1.place ∧ t2.dummies = t1.dummies ∧ t2.led = t1.led ∧ t2.fill = t1.fill := by
    refine ⟨_, rfl, ?_⟩
    split <;> exact ⟨rfl, rfl, rfl, rfl, rfl⟩
  rw [ht2]
  replace p3 := tab_same p3 f1 f2 f3
  rw [← f1] at p4
  rw [← f4] at p5
  rw [← f5] at p9
  have nw : (SetTable.insertAt es (SetTable.below t.place (way t.mask (tupleKeyHash knd ks) K)) (tupleKeyHash knd ks, Value.ref x)).toList = (L.take (SetTable.below t.place (way t.mask (tupleKeyHash knd ks) K)) ++ (x, ks) :: L.drop (SetTable.below t.place (way t.mask (tupleKeyHash knd ks) K))).map (row knd) := by
    rw [SetTable.toList_insertAt, R.eq, List.map_append, List.map_cons, List.map_take, List.map_drop]
  generalize SetTable.below t.place (way t.mask (tupleKeyHash knd ks) K) = i at p3 nw ⊢
  have pm := L2.put_perm L i (x, ks)
  have hl : (L.take i ++ (x, ks) :: L.drop i).length = L.length + 1 := pm.length_eq
  have mh : (L.take i ++ (x, ks) :: L.drop i).map (hs knd) = (L.map (hs knd)).take i ++ tupleKeyHash knd ks :: (L.map (hs knd)).drop i := by
    rw [List.map_append, List.map_cons, List.map_take, List.map_drop]
  rw [← mh] at p3
  have nd1 : ((L.take i ++ (x, ks) :: L.drop i).map (·.2)).Nodup := (pm.map (·.2)).nodup_iff.mpr (by rw [List.map_cons]; exact List.nodup_cons.mpr ⟨no, R.nd⟩)
  have sz1 := rows_size nw
  rw [hl] at sz1
  generalize SetTable.insertAt es i (tupleKeyHash knd ks, Value.ref x) = es1 at nw sz1 ⊢
  generalize L.take i ++ (x, ks) :: L.drop i = L1 at pm hl p3 nd1 nw
  refine wpAny_bind (wpAny_storeSet_of o1 o3 ?_ (by rw [sz1, sizeLine_eq]; omega))
  have sb : Heap.SameBut S s.heap (s.heap.update S (Obj.putSet es1 t2)) := Heap.SameBut.update ..
  have n1 := store_at (es' := es1) (t' := t2) o1 o3
  generalize s.heap.update S (Obj.putSet es1 t2) = h1 at sb n1 ⊢
  have all1 : ∀ y ∈ L1, IsTupleKey knd h1 y.2 y.1 := fun y hy => (List.mem_cons.mp (pm.mem_iff.mp hy)).elim (fun e => by rw [e]; exact other hx o1 o3 sb) fun hy => other (R.all y hy) o1 o3 sb
  have led1 : w.params.followText "set-order" = true ∨ t2.led = true := by rw [p5]; exact R.led
  by_cases full : t2.tooFull = true
  · first
      | (refine wpAny_bind ?_; refine wp_if_pos (by simp [full]) ?_)
      | (refine wp_if_pos (by simp [full]) ?_; refine wpAny_bind ?_)
    have much : (L.length + 1) * 5 ≥ t2.mask * 3 := by
      have z := full
      unfold SetTable.tooFull at z
      rw [decide_eq_true_eq, p9, List.length_map] at z
      exact z
    rw [sz]
    have psz : t2.place.size = es1.size := by
      have z := p3.sz
      rw [List.length_map, hl] at z
      rw [z, sz1]
    have two : (t.mask = 7 ∧ L.length = 4) ∨ (t.mask = 31 ∧ L.length = 18) ∨ (t.mask = 127 ∧ L.length = 76) := by
      rw [p4] at much
      have few := R.few
      rcases R.tab.mok with (e | e | e) | e <;> rw [e] at much rm <;> omega
    have go : ∀ m, SetTable.sizeAbove (SetTable.grown (L.length + 1)) - 1 = m → MaskB m → SetTable.sizeAbove (SetTable.grown (L.length + 1)) ≤ 512 → (L.length + 1) * 5 < m * 3 →
        wpAny (model P w) A (setRelay S (SetTable.grown (L.length + 1))) (fun _ z => wpAny (model P w) A (pure true) Q E z) E { s with heap := h1 } := fun m m1 m2 m3 m4 => by
      refine grow (s := { s with heap := h1 }) n1 ⟨o2.1, o2.2.1, o2.2.2⟩ rfl nw psz p3.dm (by rw [sz1, p4]; rcases two with ⟨e, e2⟩ | ⟨e, e2⟩ | ⟨e, e2⟩ <;> omega) nd1 all1 led1 (by rw [hl]; exact few) m1 m2 m3 (by rw [hl]; exact m4) fun h2 L2 es2 ep2 t3 sb2 R2 pm2 => ?_
      exact wpAny_pure (q true h2 L2 es2 ep2 t3 (sb.trans sb2) R2 (fun z => absurd z no) fun _ => pm2.trans pm)
    rcases two with ⟨_, e⟩ | ⟨_, e⟩ | ⟨_, e⟩
    · exact go 31 (by rw [e, size_20]) (.inl (.inr (.inl rfl))) (by rw [e, size_20]; decide) (by omega)
    · exact go 127 (by rw [e, size_76]) (.inl (.inr (.inr rfl))) (by rw [e, size_76]; decide) (by omega)
    · exact go 511 (by rw [e, size_308]) (.inr rfl) (by rw [e, size_308]; decide) (by omega)
  · first
      | refine wp_if_neg (by simp [full]) ?_
      | (refine wpAny_bind ?_; refine wp_if_neg (by simp [full]) ?_; refine wpAny_pure ?_)
    refine wpAny_pure (q true h1 L1 es1 (ep + 1) t2 sb ⟨⟨_, n1, ⟨o2.1, o2.2.1, o2.2.2⟩, rfl⟩, nw, p3, nd1, all1, led1, ?_, by rw [hl]; exact few⟩ (fun z => absurd z no) fun _ => pm)
    have z := full
    unfold SetTable.tooFull at z
    rw [decide_eq_true_eq, p9, List.length_map] at z
    rw [hl]; omega

/-! ### set(xs) -/
/-- what came of the first i -/
structure Came (xs : List (Mem κ)) (i : Nat) (L : List (Mem κ)) : Prop where
  sub : ∀ x ∈ L, x ∈ xs.take i
  all : ∀ x ∈ xs.take i, x.2 ∈ L.map (·.2)
  len : L.length ≤ i
theorem Came.no (xs : List (Mem κ)) : Came xs 0 [] := ⟨(fun x h => nomatch h), (fun x h => by simp at h), Nat.le_refl _⟩
theorem Came.next {xs L L' : List (Mem κ)} {i : Nat} {x : Mem κ} (g : Came xs i L) (h : xs[i]? = some x) (c1 : x.2 ∈ L.map (·.2) → L' = L) (c2 : x.2 ∉ L.map (·.2) → L'.Perm (x :: L)) : Came xs (i + 1) L' := by
  have e : xs.take (i + 1) = xs.take i ++ [x] := by rw [List.take_add_one, h]; rfl
  by_cases c : x.2 ∈ L.map (·.2)
  · rw [c1 c]
    refine ⟨fun y hy => by rw [e]; exact List.mem_append_left _ (g.sub y hy), fun y hy => ?_, Nat.le_succ_of_le g.len⟩
    rw [e] at hy
    exact (List.mem_append.mp hy).elim (g.all y) fun z => by rw [List.mem_singleton.mp z]; exact c
  · have pm := c2 c
    refine ⟨fun y hy => ?_, fun y hy => ?_, by rw [pm.length_eq]; exact Nat.succ_le_succ g.len⟩
    · rw [e]
      exact (List.mem_cons.mp (pm.mem_iff.mp hy)).elim (fun z => List.mem_append_right _ (by rw [z]; exact List.mem_singleton.mpr rfl)) fun z => List.mem_append_left _ (g.sub y z)
    · rw [(pm.map (·.2)).mem_iff, List.map_cons]
      rw [e] at hy
      exact (List.mem_append.mp hy).elim (fun z => List.mem_cons_of_mem _ (g.all y z)) fun z => by rw [List.mem_singleton.mp z]; exact List.mem_cons_self
theorem key_keep {h h' : Heap} {ks : List κ} {b : Addr} (x : IsTupleKey knd h ks b) (k : ∀ c o, h.get? c = some o → h'.get? c = some o) : IsTupleKey knd h' ks b :=
  let ⟨o, its, n, ho, r⟩ := x; ⟨o, its, n, k b o ho, r⟩
theorem Held.move {h h' : Heap} (R : Held knd h S L es ep t) (a : ∀ o, h.get? S = some o → h'.get? S = some o) (b : ∀ x ∈ L, IsTupleKey knd h' x.2 x.1) : Held knd h' S L es ep t :=
  let ⟨o, ho, r⟩ := R.obj; ⟨⟨o, a o ho, r⟩, R.eq, R.tab, R.nd, b, R.led, R.rm, R.few⟩
abbrev freshT (w : World) : SetTable := .fresh 0 0 (!w.params.followText "set-order")
abbrev freshO (w : World) : Obj := { cls := .type "set", dict := none, data := .set #[] 0 (freshT w) }
theorem held_new {h : Heap} (ho : h.get? S = some (freshO w)) : Held knd h S [] #[] 0 (freshT w) where
  obj := ⟨_, ho, ⟨rfl, rfl, rfl⟩, rfl⟩
  eq := rfl
  tab := ⟨.nil, rfl, rfl, .inl (.inl rfl), (fun x hx => nomatch hx), (fun i h j hi => by simp at hi)⟩
  nd := List.nodup_nil
  all := fun x hx => nomatch hx
  led := by
    show _ ∨ (!w.params.followText "set-order") = true
    cases w.params.followText "set-order"
    · exact .inr rfl
    · exact .inl rfl
  rm := by show 0 * 5 < 7 * 3; decide
  few := by show 0 < 256; decide
end
end MS

set_option Elab.async false
set_option linter.all false
set_option maxRecDepth 100000
set_option maxHeartbeats 4000000
/-! MS3: set(xs) of a list of tuples; its length. -/
namespace MS
open PySem PySem.Spec PyProof.Rows L2
section
variable {P : Program} {w : World} {κ : Type} [DecidableEq κ] {knd : KeyKind P w κ} {A : Around} {E : Value → Shared → Prop} {s : Shared}
/-- the loop that fills it -/
theorem fills (M : Mild knd) {I : Addr} {fp wr : List Addr} {G : Array GenState → Array GenState → Prop} {n : Nat} {Pv : Nat → Value → Prop} {St : Nat → Shared → Prop} {R : Result → Shared → Prop} (Wk : WalksS P w A.in1 I fp wr G n Pv St)
    (S : Addr) (out : S ∉ fp) (xs : List (Mem κ)) (hn : n = xs.length) (few : xs.length < 256) (hv : ∀ i v, Pv i v → ∃ x, xs[i]? = some x ∧ v = .ref x.1)
    (h0 : Heap) (all : ∀ x ∈ xs, IsTupleKey knd h0 x.2 x.1) (new : h0.get? S = none) (nw : ∀ b ∈ wr, h0.get? b = none) (hu : A.in1.units < cLine) :
    ∀ (m i : Nat) (s : Shared), n - i = m → i ≤ n → St i s → (∀ b o, h0.get? b = some o → s.heap.get? b = some o) → (∃ L es ep t, Held knd s.heap S L es ep t ∧ Came xs i L) →
      (∀ z L es ep t, Moved (S :: wr) G s z → Held knd z.heap S L es ep t → Came xs n L → (∀ b o, h0.get? b = some o → z.heap.get? b = some o) → R (.ok (.ret .none)) z) →
      codeAny (model P w) A (.builtin "set.update.loop" ⟨[.ref S, .ref I], []⟩) R s := by
  have out' : S ∉ wr := fun z => out (Wk.sub _ z)
  have inS : ∀ b ∈ wr, b ∈ S :: wr := fun b z => List.mem_cons_of_mem _ z
  have stay : ∀ {s z : Shared}, Moved wr G s z → (∀ b o, h0.get? b = some o → s.heap.get? b = some o) → ∀ b o, h0.get? b = some o → z.heap.get? b = some o := fun mv k b o e =>
    mv.heap b o (fun y => by rw [nw b y] at e; cases e) (k b o e)
  intro m
  induction m with
  | zero =>
    intro i s hm hi st k ⟨L, es, ep, t, H, g⟩ fin
    obtain rfl : i = n := by omega
    refine codeAny_builtin F.entry_set_update_loop ?_
    rw [Around.under_plainId F.plain_set_update_loop _]
    show wpAny _ A.in1 (pyNext (Value.ref I) >>= _) _ _ s
    refine wpAny_bind (Wk.done s _ _ st fun z mv => ?_)
    show wpAny _ A.in1 (ret Value.none) _ _ z
    have k' := stay mv k
    exact wpAny_pure (fin z L es ep t (mv.mono inS) (H.move (fun o e => mv.heap S o out' e) fun x hx => key_keep (all x (List.mem_of_mem_take (g.sub x hx))) k') g k')
  | succ m ih =>
    intro i s hm hi st k ⟨L, es, ep, t, H, g⟩ fin
    have lt : i < n := by omega
    refine codeAny_builtin F.entry_set_update_loop ?_
    rw [Around.under_plainId F.plain_set_update_loop _]
    show wpAny _ A.in1 (pyNext (Value.ref I) >>= _) _ _ s
    refine wpAny_bind (Wk.item i s _ _ lt st fun v z pv st' mv => ?_)
    obtain ⟨x, hx, rfl⟩ := hv i v pv
    have k' := stay mv k
    have H' : Held knd z.heap S L es ep t := H.move (fun o e => mv.heap S o out' e) fun y hy => key_keep (all y (List.mem_of_mem_take (g.sub y hy))) k'
    have hx' : IsTupleKey knd z.heap x.2 x.1 := key_keep (all x (List.mem_of_getElem? hx)) k'
    show wpAny _ A.in1 (holding [Value.ref x.1] (setAdd S (Value.ref x.1)) >>= _) _ _ z
    refine wpAny_bind (wpAny_holding ?_)
    unfold setAdd
    refine wpAny_holding (wpAny_bind (wpAny_pyHash_tuple hu hx' ?_))
    refine put1 M (s := { z with toks := z.toks + (x.2.length + 1) }) H' hx' hu (by have := g.len; omega) fun b h' L' es' ep' t' sb H2 c1 c2 => ?_
    have k2 : ∀ b o, h0.get? b = some o → h'.get? b = some o := fun b o e => (sb.2 b (fun y => by rw [y, new] at e; cases e)).trans (k' b o e)
    refine wpAny_pure ⟨plainId_quiet F.plain_set_update_loop _, ih (i + 1) _ (by omega) lt (Wk.frame _ z _ _ st' (Nat.le_add_right _ _) fun b y o e => ?_) k2 ⟨L', es', ep', t', H2, g.next hx c1 c2⟩ fun z2 L2 es2 ep2 t2 mv2 H3 g3 k3 => ?_⟩
    · rw [sb.2 b fun e => out (e ▸ y)]; exact e
    · refine fin z2 L2 es2 ep2 t2 (Moved.trans Wk.gtrans ((mv.mono inS).then_heap (Nat.le_add_right _ _) fun b o y e => ?_) mv2) H3 g3 k3
      rw [sb.2 b fun e => y (e ▸ List.mem_cons_self)]; exact e
/-- set(xs) -/
theorem call_set (M : Mild knd) {l : Addr} {items : Array Value} (xs : List (Mem κ)) {Q : Value → Shared → Prop} (calm : A.handled = none) (hl : s.heap.IsList l items) (hi : items.toList = xs.map fun x => Value.ref x.1) (all : ∀ x ∈ xs, IsTupleKey knd s.heap x.2 x.1)
    (few : xs.length < 256) (hu : A.units + 3 < cLine)
    (q : ∀ (h' : Heap) (tk : Nat) L es ep t, Held knd h' s.heap.objs.size L es ep t → Came xs xs.length L → (∀ b o, s.heap.get? b = some o → h'.get? b = some o) → Q (.ref s.heap.objs.size) { s with heap := h', toks := tk }) :
    wpAny (model P w) A (call (.type "set") [.ref l]) Q E s := by
  have il : items.size = xs.length := by rw [← Array.length_toList, hi, List.length_map]
  obtain ⟨c, tl, mro⟩ := F.called_set.mro
  have m1 := F.called_set.made; have m2 := F.called_set.sub
  refine wpAny_call (codeAny_of_tree ?_)
  show wpAny _ _ (callAny (.type "set") _) _ _ _
  refine wpAny_pure ⟨Code.quiet_builtin _ (by decide +kernel), codeAny_builtin F.entry_type_call ?_⟩
  rw [Around.under_plain (weight_type_call_type "set" [.ref l] []) rfl]
  have m3 := F.called_set.notType; have m4 := F.called_set.canCreate; have m5 := F.typeCall_set_1 (.ref l)
  repeat (any_goals (first | assumption | wp_step))
  refine codeAny_mono (code_set_led1 (.ref l) (E := E) (Q₁ := fun v z => v = .ref s.heap.objs.size ∧ z = { s with heap := s.heap.push (freshO w) }) ⟨rfl, rfl⟩) fun r z hr => ?_
  cases r with
  | error e => exact hr
  | ok fl =>
    cases fl with
    | ret v =>
      obtain ⟨rfl, rfl⟩ := hr
      have n1 : (s.heap.push (freshO w)).get? s.heap.objs.size = some (freshO w) := Heap.get?_push_size _ rfl
      have n2 : Shared.TypeIs { s with heap := s.heap.push (freshO w) } (.ref s.heap.objs.size) "set" := ⟨_, n1, rfl⟩
      have m6 := F.called_set.init.lookup; have m7 := F.called_set.init.bind (.ref s.heap.objs.size)
      repeat (any_goals (first | assumption | wp_step))
      refine codeAny_mono (codeAny_call_builtin (R := wants (fun v z => v = .none ∧ ∃ h' tk L es ep t, z = { s with heap := h', toks := tk } ∧ Held knd h' s.heap.objs.size L es ep t ∧ Came xs xs.length L ∧ (∀ b o, s.heap.get? b = some o → h'.get? b = some o)) E)
        F.called_set.init.plain F.entry_set_init (check_set_init_1 n2 ?_)) fun r2 z2 hr2 => ?_
      · obtain ⟨⟨c0, d0, a0, s0⟩, g1, g2, k0, g3⟩ := hl
        simp only at g2 g3
        subst g2; subst g3
        have g4 : (s.heap.push (freshO w)).get? l = some { cls := .type "list", dict := d0, data := .seq items k0, slots := s0 } := Heap.get?_push_of_some _ g1
        have u1 := F.sub_list_set; have u2 := F.sub_list_frozenset
        have u3 : (Value.type "list" == Value.type "dict") = false := by decide
        have g5 : (s.heap.push (freshO w)).IsList l items := ⟨_, g4, rfl, k0, rfl⟩
        unfold Builtin.«set.__init__» noKeywords Builtin.Frozenset.updateFrom
        generalize hPI : pyIter = PI
        wp_walk
        subst hPI
        refine wpAny_pyIter_list g5 (wpAny_bind (wpAny_runValue ?_))
        have lS : l < s.heap.objs.size := Heap.lt_size g1
        have sz : (s.heap.push (freshO w)).objs.size = s.heap.objs.size + 1 := Heap.size_push ..
        have calm3 : A.in1.in1.in1.handled = none := by simp [calm]
        have lI : l ≠ (s.heap.push (freshO w)).objs.size := by rw [sz]; exact Nat.ne_of_lt (Nat.lt_succ_of_lt lS)
        have Sf : s.heap.objs.size ∉ [(s.heap.push (freshO w)).objs.size, l] := by
          rw [sz]; simp only [List.mem_cons, List.not_mem_nil, or_false, not_or]; exact ⟨Nat.ne_of_lt (Nat.lt_succ_self _), Nat.ne_of_gt lS⟩
        have hv : ∀ (i : Nat) (v : Value), items[i]? = some v → ∃ x, xs[i]? = some x ∧ v = .ref x.1 := fun i v e => by
          rw [← Array.getElem?_toList, hi, List.getElem?_map] at e
          cases e2 : xs[i]? with
          | none => rw [e2] at e; cases e
          | some x => rw [e2] at e; exact ⟨x, rfl, (Option.some.inj e).symm⟩
        have nothing : ∀ b, s.heap.objs.size ≤ b → s.heap.get? b = none := fun b y => by
          cases e : s.heap.get? b with
          | none => rfl
          | some o => exact absurd (Nat.lt_of_lt_of_le (Heap.lt_size e) y) (Nat.lt_irrefl _)
        refine fills M ((Walks.list calm3 _ l lI items).toS) s.heap.objs.size Sf xs il few hv s.heap all (nothing _ (Nat.le_refl _)) (fun b y => nothing _ (by rw [List.mem_singleton.mp y, sz]; exact Nat.le_succ _)) hu (items.size - 0) 0 _ (by omega) (Nat.zero_le _)
          ⟨⟨_, Heap.get?_push_size _ rfl, rfl, rfl⟩, (g5.push _)⟩ (fun b o e => Heap.get?_push_of_some _ (Heap.get?_push_of_some _ e)) ⟨[], #[], 0, _, held_new (Heap.get?_push_of_some _ n1), Came.no xs⟩ fun z L es ep t mv H g k => ?_
        obtain ⟨h', g', d', tk', os'⟩ := z
        obtain rfl : g' = s.gens := mv.gens
        obtain rfl : d' = s.drawn := mv.drawn
        obtain rfl : os' = s.os := mv.os
        show wpAny _ _ _ _ _ _
        refine wpAny_pure ?_
        show wpAny _ _ (ret Value.none) _ _ _
        rw [il] at g
        exact wpAny_pure ⟨rfl, h', tk', L, es, ep, t, rfl, H, g, k⟩
      · cases r2 with
        | error e => exact hr2
        | ok f2 =>
          cases f2 with
          | ret v =>
            obtain ⟨rfl, h', tk, L, es, ep, t, rfl, H, g, k⟩ := hr2
            repeat (any_goals (first | assumption | wp_step))
            exact q _ _ _ _ _ _ H g k
          | _ => exact hr2.elim
    | _ => exact hr.elim
/-- unlike ones that all stand in m: m is these and others -/
theorem sub_perm : ∀ {l m : List (List κ)}, l.Nodup → (∀ x ∈ l, x ∈ m) → ∃ r, m.Perm (l ++ r)
  | [], m, _, _ => ⟨m, .refl _⟩
  | x :: l, m, nd, h => by
    obtain ⟨n1, n2⟩ := List.nodup_cons.mp nd
    have hx := h x List.mem_cons_self
    obtain ⟨r, hr⟩ := sub_perm (l := l) (m := m.erase x) n2 fun y hy => (List.mem_erase_of_ne (fun e => n1 (by rw [← e]; exact hy))).mpr (h y (List.mem_cons_of_mem _ hy))
    exact ⟨r, (List.perm_cons_erase hx).trans (hr.cons x)⟩
/-- the keys of a set that has come of all -/
theorem came_keys {xs L : List (Mem κ)} (g : Came xs xs.length L) : ∀ k, k ∈ L.map (·.2) ↔ k ∈ xs.map (·.2) := fun k => by
  have ga := g.all; have gs := g.sub
  rw [List.take_length] at ga gs
  constructor
  · intro h
    obtain ⟨x, hx, rfl⟩ := List.mem_map.mp h
    exact List.mem_map.mpr ⟨x, gs x hx, rfl⟩
  · intro h
    obtain ⟨x, hx, rfl⟩ := List.mem_map.mp h
    exact ga x hx
/-- fewer than all just where one comes twice -/
theorem len_lt {l m : List (List κ)} (nd : l.Nodup) (h : ∀ k, k ∈ l ↔ k ∈ m) : l.length ≤ m.length ∧ (l.length = m.length ↔ m.Nodup) := by
  obtain ⟨r, hr⟩ := sub_perm nd fun x hx => (h x).mp hx
  have e := hr.length_eq
  rw [List.length_append] at e
  refine ⟨by omega, fun z => ?_, fun z => ?_⟩
  · have : r = [] := List.eq_nil_of_length_eq_zero (by omega)
    rw [this, List.append_nil] at hr
    exact hr.nodup_iff.mpr nd
  · obtain ⟨r', hr'⟩ := sub_perm z fun x hx => (h x).mpr hx
    have e' := hr'.length_eq
    rw [List.length_append] at e'
    omega
end
end MS

set_option Elab.async false
set_option linter.all false
set_option maxRecDepth 100000
set_option maxHeartbeats 4000000
/-! MP4e: list(d.values()) of a dict with tuples for keys; len(set(xs)), xs a list of tuples; min of four. -/
namespace MP
open PySem PySem.Spec PyProof.Rows L2
section
variable {X : Cx}
/-! ### list(d.values()) -/
def tVals (te : TE) : TE := fun σ H Q => te σ H fun x H1 => ∃ d kvs, x = .ref d ∧ Rd H1 d (.dT kvs) ∧ ∀ p, H1 p = none → Q (.ref p) (upd H1 p (.lst (kvs.map (·.2))))
theorem kt_vals {H : Hp} : ∀ {kvs : List (List Key × V)} {xs : List (List Key × Addr × Value)}, KT H kvs xs → Vals (kvs.map (·.2)) (xs.map fun x => x.2.2)
  | _, _, .nil => .nil
  | _, _, .cons h t => .cons h.2.2 (kt_vals t)
theorem pe_listVals {e : Expr} {te : TE} {p apos cpos pos : Pos} (hc : X.calm = true) (hg : Gl X "list") (hm : X.mg "list" = none) (he : PE X e te) (hb : attributeBase e "values" X.env (eval e X.env) = eval e X.env) (hl : (apos.endLine == cpos.line) = true) :
    PE X (.Call (.Name "list" p) [.Call (.Attribute e "values" apos) [] [] cpos] [] pos) (tVals te) := by
  refine ⟨fun pins s σ H Q I h => ?_⟩
  refine Call_ (ld_blt I hg hm PyProof.Rows.boot_list ?_)
  refine PyProof.Rows.callWith_type1 (PyProof.Rows.args_cons ?_ rfl) rfl rfl
  refine wpAny_Call_method (T := "dict") (id := "dict.values") hb rfl hl F.plainAttrs_dict F.slot_dict_values F.type_dict_values (thn (he.run pins s σ H _ I h) fun u s1 ⟨x, H1, I1, rx, d, kvs, ex, hd, q⟩ => ?_)
  subst ex
  obtain rfl : u = Value.ref d := rx
  obtain ⟨len, lo, xs, kt, o, es, ep, ho, ex, hdat, hes, hk, hn⟩ := dt_rd I1.hok hd
  have raw : s1.heap.DictRaw d es ep := ⟨o, ho, ex, hdat⟩
  have sz : es.size = kvs.length := by rw [← Array.length_toList, hes, List.length_map]; exact (Paired.length kt).symm
  refine ⟨raw.typeIs, fun b e => by cases e; exact ⟨o, ho, ex.2.1⟩, ?_⟩
  have raw2 : (s1.heap.push { cls := .type "dict_values", data := .fields #[.ref d] }).DictRaw d es ep := ⟨o, Heap.get?_push_of_some _ ho, ex, hdat⟩
  have view : (s1.heap.push { cls := .type "dict_values", data := .fields #[.ref d] }).IsValuesView s1.heap.objs.size d := ⟨_, Heap.get?_push_size _ rfl, rfl, rfl⟩
  show wpAny _ _ (callWith cpos (.builtin "dict.values") [.ref d] [] []) _ X.xe s1
  refine method_meetsIn F.slot_dict_values F.entry_dict_values rfl (PySem.evalArgs_none ⟨rfl, raw.typeIs, F.args_dict_values_1 _, _, meets_dict_values_raw d lo, ⟨es, ep, raw⟩, ?_⟩)
  refine PyProof.Rows.args_nil ?_
  refine PySem.W.kdl_call (s := { s1 with heap := s1.heap.push { cls := .type "dict_values", data := .fields #[.ref d] } }) (KdlSrc.rawValues (r := s1.heap.objs.size) (d := d) (es := es) (ep := ep)) (I1.ok.hd hc) ⟨view, raw2⟩ (by rw [sz]; exact len) fun h' tk acc' c' k hS ha => ?_
  have I2 : Inv X pins σ H1 { s1 with heap := s1.heap.push { cls := .type "dict_values", data := .fields #[.ref d] } } := I1.kept (t' := s1.toks) fun b ob z => Heap.get?_push_of_some _ z
  have eacc : acc'.toList = xs.map fun x => x.2.2 := by
    refine List.ext_getElem? fun i => ?_
    rw [Array.getElem?_toList]
    by_cases hi : i < es.size
    · have hv := Array.getElem?_eq_getElem (xs := acc') (i := i) (by rw [ha.1]; exact hi)
      obtain ⟨hi2, e⟩ := ha.2 i _ hv
      rw [hv, e]
      have : es.toList[i]? = some es[i] := by rw [Array.getElem?_toList]; exact Array.getElem?_eq_getElem hi
      rw [hes, List.getElem?_map] at this
      rw [List.getElem?_map]
      cases hx : xs[i]? with
      | none => rw [hx] at this; cases this
      | some x =>
        rw [hx] at this
        have := Option.some.inj this
        rw [← this]; rfl
    · rw [Array.getElem?_eq_none (by rw [ha.1]; omega), List.getElem?_eq_none (by rw [List.length_map, ← Paired.length kt, ← sz]; omega)]
  have hv := kt_vals kt
  rw [← eacc] at hv
  refine ⟨.ref _, upd H1 _ (.lst (kvs.map (·.2))), I2.laid (t' := tk) k (Nat.le_refl _) (show ObjOk X.prog X.w _ _ _ (.lst (kvs.map (·.2))) from ⟨?_, acc'.toList, c', hv, ?_⟩), rfl, q _ (I2.hok.fresh (Nat.le_refl _))⟩
  · rw [List.length_map]; exact len
  · rw [Array.toArray_toList]; exact hS
/-! ### len(set(xs)) -/
def tLenSetT (K : PySem.W.Frag) (ta : TE) : TE := fun σ H Q => ta σ H fun x H1 => ∃ (l : Addr) (ks : List (Addr × List Key)), x = V.ref l ∧ SqL K H1 l (ks.map fun p => V.ref p.1) ∧ (∀ p ∈ ks, SqT K H1 p.1 (p.2.map kV)) ∧ ks.length < 256 ∧
  ∀ L : List (List Key), L.Nodup → (∀ k, k ∈ L ↔ k ∈ ks.map (·.2)) → Q (.int L.length) H1
theorem key_rel {k : Key} {u : Value} (r : RelV (kV k) u) : keyIs k u = true := by
  cases k with
  | inl i => obtain ⟨t, rfl⟩ := r; exact keyIs_int i t
  | inr x => obtain ⟨t, rfl⟩ := r; exact keyIs_str x t
theorem items_keys {P : Program} {w : World} : ∀ {k : List Key} {us : List Value}, Vals (k.map kV) us → ItemsAre (mixKind P w) k us
  | [], _, h => by cases h; exact .nil
  | k :: ks, _, h => by
    rw [List.map_cons] at h
    cases h with
    | cons a b => exact .cons (key_rel a) (items_keys b)
theorem Inv.isKey {pins : List (Addr × Obj)} {σ : L2.St} {H : Hp} {s : Shared} {b : Addr} {k : List Key} (I : Inv X pins σ H s) (h : SqT X.K H b (k.map kV)) : IsTupleKey (mixKind X.prog X.w) s.heap k b := by
  obtain ⟨its, r, ⟨o, ho, hc, n, hd⟩, _⟩ := I.tuple h
  exact ⟨o, its.toArray, n, ho, hc, hd, by simpa using items_keys r⟩
theorem refs_val {α : Type} : ∀ {ks : List (Addr × α)} {us : List Value}, Vals (ks.map fun p => V.ref p.1) us → us = ks.map fun p => Value.ref p.1
  | [], _, h => by cases h; rfl
  | k :: ks, _, h => by
    rw [List.map_cons] at h
    cases h with
    | cons a b =>
      obtain rfl := a
      rw [refs_val b]; rfl
theorem pe_lenSetT {a : Expr} {ta : TE} {p p2 q pos : Pos} (hc : X.calm = true) (hu : X.A.units + 64 < cLine) (hg : Gl X "len") (hm : X.mg "len" = none) (hg2 : Gl X "set") (hm2 : X.mg "set" = none) (ha : PE X a ta)
    (na : starEach [a] X.env = (false, eval a X.env) :: starEach [] X.env) : PE X (.Call (.Name "len" p) [.Call (.Name "set" p2) [a] [] q] [] pos) (tLenSetT X.K ta) := by
  refine ⟨fun pins s σ H Q I h => ?_⟩
  refine Call_ (ld_blt I hg hm PySem.boot_len ?_)
  refine PyProof.Rows.callWith_builtin1 (PyProof.Rows.args_cons ?_ rfl) rfl rfl
  refine Call_ (ld_blt I hg2 hm2 PyProof.Rows.boot_set ?_)
  refine PyProof.Rows.callWith_type1 (PyProof.Rows.args_cons (thn (ha.run pins s σ H _ I h) fun v s1 ⟨x, H1, I1, r1, q1⟩ => PyProof.Rows.args_nil ?_) na) na rfl
  obtain ⟨l, ks, rfl, hl, hk, few, q1⟩ := q1
  cases r1
  obtain ⟨its, rv, pl, hz⟩ := I1.list hl
  refine MS.call_set MS.mild_mix ks (I1.ok.hd hc) pl.isList (by simpa using refs_val rv) (fun x hx => Inv.isKey I1 (hk x hx)) few (by omega) fun h' tk L es ep t R g k => ?_
  refine PyProof.Rows.args_nil ?_
  have I2 : Inv X pins σ H1 { s1 with heap := h', toks := tk } := I1.kept k
  obtain ⟨o, o1, o2, o3⟩ := R.obj
  have sz := MS.rows_size R.eq
  refine call_len_set (s := { s1 with heap := h', toks := tk }) o1 o2 o3 (MS.Held.fit (s := { s1 with heap := h', toks := tk }) R) (by rw [sz]; have := R.few; omega) ⟨.int L.length, H1, I2.tok _, ⟨_, by rw [sz]⟩, ?_⟩
  have := q1 (L.map (·.2)) R.nd (MS.came_keys g)
  rwa [List.length_map] at this
end
end MP

set_option Elab.async false
set_option linter.all false
set_option maxRecDepth 100000
set_option maxHeartbeats 4000000
/-! MP10d: len(set(a)), list(d.values()), a dict walked while it is locked. -/
namespace MP
open PySem PySem.Spec PyProof.Rows L2
/-- tuples of numbers and texts as they stand -/
theorem keys_v {K : KH} {F : Hp} : ∀ {ws : List W} {k : List Key} {vs : List V}, keysW ws = some k → RepL K F ws vs → vs = k.map kV
  | [], _, _, h, .nil => by cases h; rfl
  | w :: ws, k, _, h, .cons a b => by
    unfold keysW at h
    cases e : keysW ws with
    | none => rw [e] at h; cases hw : keyW w <;> rw [hw] at h <;> cases h
    | some ks =>
      rw [e] at h
      have r := keys_v e b
      cases w with
      | int i => cases h; cases a; rw [r]; rfl
      | str x => cases h; cases a; rw [r]; rfl
      | _ => cases h
theorem tups_v {K : KH} {S : Sto} {H : Hp} : ∀ {ws : List W} {ks : List (List Key)} {vs : List V}, tupsW ws = some ks → RepL K (fz S H) ws vs →
    ∃ ps : List (Addr × List Key), vs = ps.map (fun p => V.ref p.1) ∧ ps.map (·.2) = ks ∧ ∀ p ∈ ps, H p.1 = some (.tup (p.2.map kV))
  | [], _, _, h, .nil => by cases h; exact ⟨[], rfl, rfl, fun p hp => nomatch hp⟩
  | w :: ws, ks, _, h, .cons a b => by
    unfold tupsW at h
    split at h
    · rename_i e; cases e
    · rename_i us us' e
      cases e
      cases a with
      | tup nk ht rr =>
        cases ek : keysW us with
        | none => rw [ek] at h; cases h
        | some k =>
          rw [ek] at h
          cases er : tupsW ws with
          | none => rw [er] at h; cases h
          | some ks' =>
            rw [er] at h
            cases h
            obtain ⟨ps, e1, e2, e3⟩ := tups_v er b
            obtain ⟨hs, hH⟩ := fz_some ht
            rw [keys_v ek rr] at hH
            refine ⟨(_, k) :: ps, by rw [e1]; rfl, by rw [List.map_cons, e2], fun p hp => ?_⟩
            rcases List.mem_cons.mp hp with rfl | hp
            · exact hH
            · exact e3 p hp
    · cases h
section
variable {CX : CXT} {G : Gv} {Φ : Nat → Spec} {n : Nat}
theorem snd_lset {a : CE} (ha : Snd CX G Φ n a) : Snd CX G Φ n (.lset a) := by
  refine sndE _ (fun N k e => match e with
    | .Call (.Name x _) [.Call (.Name y _) [z] [] _] [] _ => decide (x = ("len" : Str)) && glC k.sc x && decide (y = ("set" : Str)) && glC k.sc y && notStar z && (ck G N n a).e k z
    | _ => false) rfl (fun N => rfl) (fun N k x hx => ?_) fun {N E k X x} o hN hx => ?_
  · split at hx
    · rfl
    · cases hx
  · split at hx
    · rename_i x p y p2 z p3 pos
      simp only [Bool.and_eq_true] at hx
      obtain ⟨⟨⟨⟨⟨h1, h2⟩, h3⟩, h4⟩, h5⟩, h6⟩ := hx
      obtain rfl := of_decide_eq_true h1
      obtain rfl := of_decide_eq_true h3
      have hu := units_of o.room
      refine PE.imp (pe_lenSetT o.calm (by omega) (gl_of o h2) (o.g.blt .len) (gl_of o h4) o.g.more.2.2.2.2.1 (ha.e o hN h6) (star_of h5)) fun σ H Q q => ?_
      obtain ⟨h, ρ, S, Q0, Y, s, q, kv, kx⟩ := q
      refine ⟨h, ρ, S, _, Y, s, q, fun w S1 v H1 s1 e1 r1 q1 => ?_, kx⟩
      obtain ⟨ws, ks, hw, hk, h64, q1⟩ := q1
      obtain ⟨a1, us, rfl, b1, c1⟩ := rdL_sq s1.sto r1 hw
      have hl := c1.length
      obtain ⟨ps, rfl, rfl, e3⟩ := tups_v hk c1
      rw [List.length_map] at hl
      exact ⟨a1, ps, rfl, b1.sq, fun p hp => .of (e3 p hp), by omega, fun L nd hL => kv _ _ _ _ s1 e1 (.int _) (q1 L nd hL)⟩
    · cases hx
theorem kvr_vals {κ : Type} {K : KH} {F : Hp} : ∀ {kvs : List (κ × W)} {kv' : List (κ × V)}, KVR K F kvs kv' → RepL K F (kvs.map (·.2)) (kv'.map (·.2))
  | _, _, .nil => .nil
  | _, _, .cons h t => .cons h.2 (kvr_vals t)
theorem snd_lvals {live : Bool} {a : CE} (ha : Snd CX G Φ n a) : Snd CX G Φ n (.lvals live a) := by
  refine sndE _ (fun N k e => match e with
    | .Call (.Name x _) [.Call (.Attribute z y apos) [] [] cpos] [] _ => decide (x = ("list" : Str)) && glC k.sc x && decide (y = ("values" : Str)) && (apos.endLine == cpos.line) && notCall0 z && (ck G N n a).e k z
    | _ => false) rfl (fun N => rfl) (fun N k x hx => ?_) fun {N E k X x} o hN hx => ?_
  · split at hx
    · rfl
    · cases hx
  · split at hx
    · rename_i x p z y apos cpos pos
      simp only [Bool.and_eq_true] at hx
      obtain ⟨⟨⟨⟨⟨h1, h2⟩, h3⟩, h4⟩, h5⟩, h6⟩ := hx
      obtain rfl := of_decide_eq_true h1
      obtain rfl := of_decide_eq_true h3
      refine PE.imp (pe_listVals o.calm (gl_of o h2) (o.g.blt .list) (ha.e o hN h6) (base_of h5) h4) fun σ H Q q => ?_
      obtain ⟨h, ρ, S, Q0, Y, s, q, kv, kx⟩ := q
      refine ⟨h, ρ, S, _, Y, s, q, fun w S1 v H1 s1 e1 r1 q1 => ?_, kx⟩
      obtain ⟨p, kvs, rfl, hp, q1⟩ := q1
      cases r1
      obtain ⟨kv', hk1, hk2⟩ := cell_obT s1.sto hp
      exact ⟨p, kv', rfl, hk1, (kv.to e1).newLst s1 (kvr_vals hk2) q1⟩
    · cases hx
theorem rep_key {K : KH} {F : Hp} : ∀ k : Key, Rep K F (wKey k) (kV k)
  | .inl i => .int i
  | .inr x => .str x
theorem rep_keys {K : KH} {F : Hp} : ∀ ks : List Key, RepL K F (ks.map wKey) (ks.map kV)
  | [] => .nil
  | k :: ks => .cons (rep_key k) (rep_keys ks)
theorem kvr_at {κ : Type} {K : KH} {F : Hp} : ∀ {kvs : List (κ × W)} {kv' : List (κ × V)} {i : Nat} {k : κ} {v : V}, KVR K F kvs kv' → kv'[i]? = some (k, v) → ∃ w, kvs[i]? = some (k, w)
  | _, _, _, _, _, .nil, h => by simp at h
  | _, _, 0, k, v, .cons (a := a) (b := b) h t, e => by
    have e : b = (k, v) := by simpa using e
    obtain ⟨h1, _⟩ := h
    rw [e] at h1
    have h1 : a.1 = k := h1
    exact ⟨a.2, by rw [← h1]; rfl⟩
  | _, _, i + 1, k, v, .cons h t, e => by
    obtain ⟨w, hw⟩ := kvr_at (i := i) t (by simpa using e)
    exact ⟨w, by simpa using hw⟩
/-- a tuple of the layer stands frozen -/
theorem tup_fz {K : KH} {S : Sto} {H : Hp} {q : Addr} {vs : List V} (k : StoOk K S H) (h : H q = some (.tup vs)) : K.h q = false ∧ fz S H q = some (.tup vs) := by
  constructor
  · cases e : K.h q with
    | false => rfl
    | true =>
      obtain ⟨_, u, hu, hn⟩ := k.hid q e
      rw [h] at hu; cases hu
      exact hn.elim
  · rw [fz_none, h]
    cases e : S q with
    | none => rfl
    | some o =>
      obtain ⟨u, hu, r⟩ := k.at' q o e
      rw [h] at hu; cases hu
      cases o <;> obtain ⟨_, z⟩ := r <;> first | (obtain ⟨z, _⟩ := z; cases z; done) | (obtain ⟨_, z, _⟩ := z; cases z; done) | skip
      all_goals (rename_i z1; cases z1)
theorem itok_keysT {K : KH} {S0 : Sto} {H0 : Hp} {p : Addr} {od : Obj} {kvs : List (List Key × W)} {kv' : List (List Key × V)} (r : KVR K (fz S0 H0) kvs kv') :
    ItOk K S0 H0 (Itkt p od kv') (fun S => S p = some (.lk (.dt kvs) od (.dT kv'))) (kvs.map fun kv => W.tup (kv.1.map wKey)) := by
  have len := Paired.length r
  have there : ∀ S H, StoOk K S H → S p = some (.lk (.dt kvs) od (.dT kv')) → H p = some (.frz od (.dT kv')) := fun S H k h => by
    obtain ⟨u, hu, e, _⟩ := k.at' p _ h
    rw [hu, e]
  refine ⟨fun i S H k m h hi => ?_, fun i S H k m h hi => ?_, fun i S H x H' k m h hi hy => ?_⟩
  · rw [List.length_map, len] at hi
    exact ⟨there S H k h, hi⟩
  · rw [List.length_map, len] at hi
    exact ⟨there S H k h, hi⟩
  · obtain ⟨rfl, ks, v, q, h1, rfl, h2⟩ := hy
    obtain ⟨w, hw⟩ := kvr_at r h1
    obtain ⟨t1, t2⟩ := tup_fz k h2
    exact ⟨.tup (ks.map wKey), by rw [List.getElem?_map, hw]; rfl, k, Same.refl _, .tup t1 t2 (rep_keys ks)⟩
theorem itok_keysK {K : KH} {S0 : Sto} {H0 : Hp} {p : Addr} {od : Obj} {kvs : List (Key × W)} {kv' : List (Key × V)} (r : KVR K (fz S0 H0) kvs kv') :
    ItOk K S0 H0 (Itk p od kv') (fun S => S p = some (.lk (.dk kvs) od (.dK kv'))) (kvs.map fun kv => wKey kv.1) := by
  have len := Paired.length r
  have there : ∀ S H, StoOk K S H → S p = some (.lk (.dk kvs) od (.dK kv')) → H p = some (.frz od (.dK kv')) := fun S H k h => by
    obtain ⟨u, hu, e, _⟩ := k.at' p _ h
    rw [hu, e]
  refine ⟨fun i S H k m h hi => ?_, fun i S H k m h hi => ?_, fun i S H x H' k m h hi hy => ?_⟩
  · rw [List.length_map, len] at hi
    exact ⟨there S H k h, hi⟩
  · rw [List.length_map, len] at hi
    exact ⟨there S H k h, hi⟩
  · obtain ⟨rfl, ks, v, h1, rfl⟩ := hy
    obtain ⟨w, hw⟩ := kvr_at r h1
    exact ⟨wKey ks, by rw [List.getElem?_map, hw]; rfl, k, Same.refl _, rep_key ks⟩
theorem kvr_agree {κ : Type} {K : KH} {h' : Addr → Bool} {F : Hp} (h : ∀ b o, F b = some o → h' b = K.h b) {kvs : List (κ × W)} {kv' : List (κ × V)} (r : KVR K F kvs kv') : KVR ⟨K.K, h'⟩ F kvs kv' :=
  Paired.mapP r fun _ _ z => ⟨z.1, z.2.agree h⟩
theorem mut_of {K : KH} {F H : Hp} {p : Addr} {o : Ob} {ks : List W} {u : HO} (h : obKeys o = some ks) (r : ObR K F H p o u) : Mut (some u) := by
  cases o with
  | dk kvs => obtain ⟨kv', rfl, _⟩ := r; exact trivial
  | dt kvs => obtain ⟨kv', rfl, _⟩ := r; exact trivial
  | _ => cases h
theorem snd_bck {a b c : CE} (ha : Snd CX G Φ n a) (hb : Snd CX G Φ n b) (hc : Snd CX G Φ n c) : Snd CX G Φ n (.bck a b c) := by
  refine sndE _ (fun N k e => match e with | .Subscript v (.Slice (some l) none (some t) _) _ => (ck G N n a).e k v && (ck G N n b).e k l && (ck G N n c).e k t | _ => false) rfl (fun N => rfl) (fun N k x hx => ?_) fun {N E k X x} o hN hx => ?_
  · split at hx
    · rfl
    · cases hx
  · split at hx
    · simp only [Bool.and_eq_true] at hx
      refine PE.imp (pe_back (ha.e o hN hx.1.1) (hb.e o hN hx.1.2) (hc.e o hN hx.2)) fun σ H Q q => ?_
      obtain ⟨h, ρ, S, Q0, Y, s, q, kv, kx⟩ := q
      refine ⟨h, ρ, S, _, Y, s, q, fun w S1 v H1 s1 e1 r1 q1 => ⟨h, ρ, S1, _, Y, s1, q1, fun w2 S2 v2 H2 s2 e2 r2 q2 => ?_, kx.to e1⟩, kx⟩
      obtain ⟨rfl, q2⟩ := q2
      cases r2
      refine ⟨1, rfl, h, ρ, S2, _, Y, s2, q2, fun w3 S3 v3 H3 s3 e3 r3 q3 => ?_, kx.to (e1.trans e2)⟩
      obtain ⟨rfl, u, v, r, rfl, q3⟩ := q3
      cases r3
      obtain ⟨a, vs, rfl, ht, rr⟩ := tup_sq (r1.mono (e2.trans e3))
      obtain _ | ⟨ru, _ | ⟨rv, rr⟩⟩ := rr
      exact ⟨-1, rfl, rfl, rfl, a, _, _, _, rfl, .of ht, (kv.to ((e1.trans e2).trans e3)).newTup s3 (.cons rv (.cons ru .nil)) q3⟩
    · cases hx
theorem snd_lck {a : CE} (ha : Snd CX G Φ n a) : Snd CX G Φ n (.lck a) := by
  refine sndE _ (fun N k e => match e with | .ListComp .. => (ck G N n a).e k e | _ => false) rfl (fun N => rfl) (fun N k x hx => ?_) fun {N E k X x} o hN hx => ?_
  · split at hx
    · rfl
    · cases hx
  · have hx' : (ck G N n a).e k x = true := by
      split at hx
      · exact hx
      · cases hx
    refine PE.imp (pe_lock (ha.e o hN hx')) fun σ H Q q => ?_
    obtain ⟨h, ρ, S, Q0, Y, s, q, kv, kx⟩ := q
    obtain ⟨p, ob, ks, hp, hks, q⟩ := q
    obtain ⟨u, hu, ru⟩ := s.sto.at' p ob hp
    refine ⟨p, u, hu, mut_of hks ru, fun od => ?_⟩
    have e0 : Same (fz S H) (fz (sup S p (.lk ob od u)) (upd H p (.frz od u))) := by rw [fz_put hp]; exact Same.refl _
    have s0 := s.to e0 (s.sto.put hp (o := .frz od u) (ob := .lk ob od u) ⟨rfl, ru⟩)
    refine ⟨h, ρ, _, _, XN, s0, q od u, fun w S2 v H2 s2 e2 r2 q2 => ?_, XCk.no⟩
    obtain ⟨hS, q2⟩ := q2
    obtain ⟨u2, hu2, ru2, rob⟩ := s2.sto.at' p _ hS
    subst ru2
    refine ⟨hu2, ?_⟩
    have e3 : Same (fz S2 H2) (fz (sup S2 p ob) (upd H2 p u)) := by rw [fz_put hS]; exact Same.refl _
    exact kv _ _ _ _ (s2.to e3 (s2.sto.put hS rob)) ((e0.trans e2).trans e3) (r2.mono e3) q2
theorem snd_ikeys {a : CE} (ha : Snd CX G Φ n a) : Snd CX G Φ n (.ikeys a) := by
  refine sndO (fun _ _ _ => rfl) (fun _ _ _ => rfl) (fun _ _ _ => rfl) (fun _ _ _ => rfl) (fun _ _ _ => rfl) (fun {N E k X x} o hN hx => by cases hx) (fun {N E k X t x} o hN hx => ?_)
  have hx' : (notSet x && (ck G N n a).e k x) = true := hx
  simp only [Bool.and_eq_true] at hx'
  refine PI.imp (pi_keys (ha.e o hN hx'.2)) fun σ H R q => ?_
  obtain ⟨h, ρ, S, Q0, Y, s, q, kv, kx⟩ := q
  refine ⟨h, ρ, S, _, Y, s, q, fun w S1 v H1 s1 e1 r1 q1 => ?_, kx⟩
  obtain ⟨p, ob, od, u, ks, rfl, hp, hks, q1⟩ := q1
  cases r1
  obtain ⟨u', hu, rfl, rob⟩ := s1.sto.at' p _ hp
  refine ⟨p, od, rfl, ?_⟩
  cases ob with
  | dk kvs =>
    cases hks
    obtain ⟨kv', rfl, rk⟩ := rob
    exact .inl ⟨kv', hu, kv _ _ _ _ _ s1 e1 (fun h' hh => itok_keysK (kvr_agree hh rk)) q1⟩
  | dt kvs =>
    cases hks
    obtain ⟨kv', rfl, rk⟩ := rob
    exact .inr ⟨kv', hu, kv _ _ _ _ _ s1 e1 (fun h' hh => itok_keysT (kvr_agree hh rk)) q1⟩
  | _ => cases hks
end
end MP

set_option Elab.async false
set_option linter.all false
set_option maxRecDepth 100000
set_option maxHeartbeats 4000000
/-! MP11: isinstance, dict displays; all expressions. -/
namespace MP
open PySem PySem.Spec PyProof.Rows L2

theorem kndTy {K : KH} {S : Sto} {H : Hp} {w : W} {v : V} {k : Knd} (s : StoOk K S H) (r : Rep K (fz S H) w v) (h : kndW S w = some k) : TyX K.K H v (.type k.nm) := by
  cases w with
  | non => cases r; cases h; exact .base .non
  | bl b => cases r; cases h; exact .base (.bl b)
  | int i => cases r; cases h; exact .base (.int i)
  | str x => cases r; cases h; exact .base (.str x)
  | tup ws =>
    cases h
    obtain ⟨a, vs, rfl, ha, ra⟩ := tup_sq r
    exact .base (.tup ha)
  | lst ws =>
    cases h
    obtain ⟨a, vs, rfl, ha, ra⟩ := rdL_sq s r rfl
    rcases ha with (ha | ⟨od, ha⟩) | ⟨its, n, h1, h2, h3⟩
    · exact .base (.lst ha)
    · exact .base (.frz ha)
    · exact .kList h1 rfl
  | ref a =>
    cases r
    cases e : S a with
    | none => simp [kndW, e] at h
    | some o =>
      simp only [kndW, e, Option.bind_some] at h
      obtain ⟨u, hu, q⟩ := s.at' a o e
      cases o with
      | lst ws => cases h; obtain ⟨vs, rfl, _⟩ := q; exact .base (.lst hu)
      | dk kvs => cases h; obtain ⟨vs, rfl, _⟩ := q; exact .base (.dK hu)
      | dt kvs => cases h; obtain ⟨vs, rfl, _⟩ := q; exact .base (.dT hu)
      | ins C fs => cases h
      | lk o od u' =>
        cases o with
        | lst ws => cases h; obtain ⟨rfl, vs, rfl, _⟩ := q; exact .base (.frz hu)
        | dk kvs => cases h; obtain ⟨rfl, vs, rfl, _⟩ := q; exact .fDict hu
        | _ => cases h
theorem kit_knd : ∀ k t : Knd, t ≠ .non → kitB k.nm t.nm = some (subK k t) := by
  intro k t h
  cases t <;> first | exact absurd rfl h | (cases k <;> decide +kernel)
theorem knd_boot : ∀ t : Knd, t ≠ .non → bootBuiltins (t.nm : Str) = some (.type t.nm) ∧ (t.nm : Str) ≠ "__name__" ∧ ((t.nm : Str) == ("__debug__" : Str)) = false := by
  intro t h
  cases t <;> first | exact absurd rfl h | decide +kernel
section
variable {CX : CXT} {G : Gv} {Φ : Nat → Spec} {n : Nat}
theorem snd_isi {a : CE} {t : Knd} (ha : Snd CX G Φ n a) : Snd CX G Φ n (.isi a t) := by
  refine sndE _ (fun N k e => match e with
    | .Call (.Name x _) [y, .Name z _] [] _ => decide (x = ("isinstance" : Str)) && glC k.sc x && decide (z = (t.nm : Str)) && glC k.sc z && decide (t ≠ .non) && notStar y && (ck G N n a).e k y
    | _ => false) rfl (fun N => rfl) (fun N k x hx => ?_) fun {N E k X x} o hN hx => ?_
  · split at hx
    · rfl
    · cases hx
  · split at hx
    · rename_i x p y z p2 pos
      simp only [Bool.and_eq_true] at hx
      obtain ⟨⟨⟨⟨⟨⟨h1, h2⟩, h3⟩, h4⟩, h5⟩, h6⟩, h7⟩ := hx
      obtain rfl := of_decide_eq_true h1
      obtain rfl := of_decide_eq_true h3
      have h5 := of_decide_eq_true h5
      obtain ⟨m1, m2, m3, m4, m5, m6, m7, m8, m9⟩ := o.g.more
      have hmt : X.mg (t.nm : Str) = none := by
        cases t with
        | non => exact absurd rfl h5
        | bl => exact m9
        | int => exact o.g.blt .int
        | str => exact o.g.blt .str
        | lst => exact o.g.blt .list
        | tup => exact o.g.blt .tuple
        | dct => exact m7
      obtain ⟨b1, b2, b3⟩ := knd_boot t h5
      have hT : PE X (.Name (t.nm : Str) p2) (tC (.ty t.nm)) := pe_bltn (gl_of o h4) hmt b1 rfl b2 b3
      refine PE.imp (pe_callB call_isi (gl_of o h2) m4 (by decide +kernel) (pa_cons (ha.e o hN h7) (pa_cons hT pa_nil rfl) (star_of h6)) (by decide) (by decide) (star_of h6) rfl) fun σ H Q q => ?_
      obtain ⟨hh, ρ, S, Q0, Y, s, q, kv, kx⟩ := q
      refine ⟨hh, ρ, S, _, Y, s, q, fun w S1 v H1 s1 e1 r1 q1 => ?_, kx⟩
      obtain ⟨k', hk, q1⟩ := q1
      exact ⟨v, _, _, _, _, rfl, .ty _, kndTy s1.sto r1 hk, kit_ty (kit_knd k' t h5), kv _ _ _ _ s1 e1 (.bl _) q1⟩
    · cases hx
end
/-! ### dict displays -/
section
variable {K : KH} {D : Addr}
/-- a hidden thing becomes a cell -/
theorem Sim.cellO {ρ : Env} {σ : L2.St} {S : Sto} {H : Hp} {ob : Ob} {u : HO} (s : Sim (K.more D) ρ σ S H) (nD : K.h D = false) (h : H D = some u) (r : ObR (K.more D) (fz S H) H D ob u) : Sim K ρ σ (sup S D ob) H := by
  have hS := (s.sto.hid D KH.more_at).1
  have e : ∀ b, b ≠ D → fz (sup S D ob) H b = fz S H b := fun b hb => by
    unfold fz
    rw [sup_ne hb]
  refine ⟨fun i w q => ?_, s.len, ⟨fun b u q => ?_, fun a q => ?_⟩⟩
  · obtain ⟨v, h1, h2⟩ := s.var i w q
    exact ⟨v, h1, (h2.hidden KH.more_at e).unhide⟩
  · by_cases hb : b = D
    · subst hb
      rw [sup_same] at q; cases q
      exact ⟨_, h, (r.hidden KH.more_at e).unhide⟩
    · rw [sup_ne hb] at q
      obtain ⟨v, hv, z⟩ := s.sto.at' b u q
      exact ⟨v, hv, (z.hidden KH.more_at e).unhide⟩
  · obtain ⟨h1, u, h2⟩ := s.sto.hid a (by unfold KH.more; simp [q])
    by_cases z : a = D
    · subst z
      rw [nD] at q; cases q
    · exact ⟨by rw [sup_ne z]; exact h1, u, h2⟩
end
def trsOf (c : Ct0) (Φ : Nat → Spec) : CE → List (TE × TE)
  | .cons a (.cons b r) => (tOf c (wp Φ a).e, tOf c (wp Φ b).e) :: trsOf c Φ r
  | _ => []
def itm : CE → List CE
  | .cons a as => a :: itm as
  | _ => []
def evn : CE → Bool
  | .nil => true
  | .cons _ (.cons _ r) => evn r
  | _ => false
def prs : List V → List (V × V)
  | a :: b :: r => (a, b) :: prs r
  | _ => []
theorem imp_pairs {c : Ct0} {Φ : Nat → Spec} : ∀ (as : CE), evn as = true → ∀ {h : Addr → Bool} {ρ : Env} {σ : L2.St} {S : Sto} {H : Hp} {Q : List W → Sto → Prop} {X : XC} {Q' : List (V × V) → Hp → Prop}, Sim (c.at h).K ρ σ S H → (wp Φ as).es ρ S Q X →
    (∀ ws S' vs H', Sim (c.at h).K ρ σ S' H' → Same (fz S H) (fz S' H') → RepL (c.at h).K (fz S' H') ws vs → Q ws S' → Q' (prs vs) H') → XCk (c.at h).K (c.E σ) S H X → tPairs (trsOf c Φ as) σ H Q'
  | .nil, _, h, ρ, σ, S, H, Q, X, Q', s, q, k, kx => k [] S [] H s (Same.refl _) .nil q
  | .cons a (.cons b r), he, h, ρ, σ, S, H, Q, X, Q', s, q, k, kx => by
    refine ⟨h, ρ, S, _, X, s, q, fun w S1 v H1 s1 e1 r1 q1 => ⟨h, ρ, S1, _, X, s1, q1, fun w2 S2 v2 H2 s2 e2 r2 q2 => ?_, kx.to e1⟩, kx⟩
    refine imp_pairs r he s2 q2 (fun ws S3 vs H3 s3 e3 r3 q3 => ?_) (kx.to (e1.trans e2))
    exact k (w :: w2 :: ws) S3 (v :: v2 :: vs) H3 s3 ((e1.trans e2).trans e3) (.cons (r1.mono (e2.trans e3)) (.cons (r2.mono e3) r3)) q3
theorem keyKey {K : KH} {F : Hp} {w : W} {v : V} {k : Key} (h : keyW w = some k) (r : Rep K F w v) : v = kV k := by
  cases w with
  | int i => cases h; cases r; rfl
  | str x => cases h; cases r; rfl
  | _ => cases h
theorem puts_v {K : KH} {F : Hp} : ∀ {ws : List W} {vs : List V} {acc kvs : List (Key × W)} {acc' : List (Key × V)}, RepL K F ws vs → KVR K F acc acc' → putsK acc ws = some kvs →
    ∃ ps : List (Key × V), prs vs = ps.map (fun kv => (kV kv.1, kv.2)) ∧ 2 * ps.length = ws.length ∧ KVR K F kvs (mergeK acc' ps)
  | [], _, acc, kvs, acc', .nil, r, h => by
    cases h
    exact ⟨[], rfl, rfl, r⟩
  | [w], _, _, _, _, .cons _ .nil, _, h => by cases h
  | w :: w2 :: ws, _, acc, kvs, acc', .cons r1 (.cons r2 rs), r, h => by
    unfold putsK at h
    cases e : keyW w with
    | none => rw [e] at h; cases h
    | some k =>
      rw [e] at h
      obtain ⟨ps, h1, h2, h3⟩ := puts_v (acc' := putK acc' k _) rs (kvr_put r r2) h
      refine ⟨(k, _) :: ps, ?_, ?_, h3⟩
      · show (_, _) :: prs _ = _
        rw [h1, keyKey e r1]
        rfl
      · rw [List.length_cons, List.length_cons, List.length_cons]; omega
section
variable {CX : CXT} {G : Gv} {Φ : Nat → Spec} {n : Nat}
theorem altE_ks {ks : List (Option Expr)} {vs es : List Expr} (h : altE ks vs = some es) : (ks = [] ∧ vs = [] ∧ es = []) ∨ ∃ k ks' v vs' es', ks = some k :: ks' ∧ vs = v :: vs' ∧ es = k :: v :: es' ∧ altE ks' vs' = some es' := by
  cases ks with
  | nil => cases vs <;> cases h; exact .inl ⟨rfl, rfl, rfl⟩
  | cons q ks =>
    cases q with
    | none => cases vs <;> cases h
    | some q =>
      cases vs with
      | nil => cases h
      | cons v vs =>
        have h' : (altE ks vs).map (fun r => q :: v :: r) = some es := h
        cases e : altE ks vs with
        | none => rw [e] at h'; cases h'
        | some es' =>
          rw [e] at h'; cases h'
          exact .inr ⟨_, _, _, _, _, rfl, rfl, rfl, e⟩
theorem es_cons {N : List Str} {k : Sk} {as : CE} {x : Expr} {es : List Expr} (h : (ck G N n as).es k (x :: es) = true) : ∃ a r, as = .cons a r ∧ (ck G N n a).e k x = true ∧ (ck G N n r).es k es = true := by
  cases as with
  | cons a r =>
    have h' : (notStar x && (ck G N n a).e k x && (ck G N n r).es k es) = true := h
    simp only [Bool.and_eq_true] at h'
    exact ⟨a, r, rfl, h'.1.2, h'.2⟩
  | _ => cases h
theorem es_nil0 {N : List Str} {k : Sk} {as : CE} (h : (ck G N n as).es k [] = true) : as = .nil := by
  cases as <;> first | rfl | cases h
theorem pps_of {E : L2.St → XK} {k : Sk} {X : Cx} {N : List Str} {pos : Pos} (o : XOk CX G Φ n E k X) (hN : X.N = N) : ∀ (m : Nat) {as : CE} {ks : List (Option Expr)} {vs es : List Expr}, ks.length = m → (∀ a ∈ itm as, Snd CX G Φ n a) → altE ks vs = some es →
    (ck G N n as).es k es = true → PPs X pos ks vs (trsOf ⟨X.K, E⟩ Φ as) ∧ evn as = true ∧ ks.all (·.isSome) = true ∧ ks.length = vs.length
  | 0, as, ks, vs, es, hm, hs, ha, hc => by
    rcases altE_ks ha with ⟨rfl, rfl, rfl⟩ | ⟨q, ks', v, vs', es', rfl, rfl, rfl, ha⟩
    · obtain rfl := es_nil0 hc
      exact ⟨pps_nil, rfl, rfl, rfl⟩
    · cases hm
  | m + 1, as, ks, vs, es, hm, hs, ha, hc => by
    rcases altE_ks ha with ⟨rfl, rfl, rfl⟩ | ⟨q, ks', v, vs', es', rfl, rfl, rfl, ha2⟩
    · cases hm
    · obtain ⟨a, r, rfl, c1, hc2⟩ := es_cons hc
      obtain ⟨b, r, rfl, c2, hc3⟩ := es_cons hc2
      obtain ⟨p1, p2, p3, p4⟩ := pps_of (as := r) o hN m (by simpa using hm) (fun z hz => hs z (by simp [itm, hz])) ha2 hc3
      exact ⟨pps_cons ((hs a (by simp [itm])).e o hN c1) ((hs b (by simp [itm])).e o hN c2) p1, p2, by rw [List.all_cons, p3]; rfl, by rw [List.length_cons, List.length_cons, p4]⟩
theorem rep_rg {K : KH} {F : Hp} {j : Int} : RepL K F (rngW 0 j.toNat) (rgV 0 j) := by
  unfold rngW rgV
  rw [Int.sub_zero]
  generalize List.range j.toNat = l
  induction l with
  | nil => exact .nil
  | cons i l ih => exact .cons (.int _) ih
theorem snd_lrg {live : Bool} {a : CE} (ha : Snd CX G Φ n a) : Snd CX G Φ n (.lrg live a) := by
  refine sndE _ (fun N k e => match e with
    | .Call (.Name x _) [.Call (.Name y _) [z] [] _] [] _ => decide (x = ("list" : Str)) && glC k.sc x && decide (y = ("range" : Str)) && glC k.sc y && notStar z && (ck G N n a).e k z
    | _ => false) rfl (fun N => rfl) (fun N k x hx => ?_) fun {N E k X x} o hN hx => ?_
  · split at hx
    · rfl
    · cases hx
  · split at hx
    · rename_i x p y p2 z p3 pos
      simp only [Bool.and_eq_true] at hx
      obtain ⟨⟨⟨⟨⟨h1, h2⟩, h3⟩, h4⟩, h5⟩, h6⟩ := hx
      obtain rfl := of_decide_eq_true h1
      obtain rfl := of_decide_eq_true h3
      refine PE.imp (pe_listRg o.calm (gl_of o h2) (o.g.blt .list) (prg_1 (gl_of o h4) o.g.more.1 (ha.e o hN h6) (star_of h5)) rfl) fun σ H Q q => ?_
      obtain ⟨hh, ρ, S, Q0, Y, s, q, kv, kx⟩ := q
      refine ⟨hh, ρ, S, _, Y, s, q, fun w S1 v H1 s1 e1 r1 q1 => ?_, kx⟩
      obtain ⟨j, rfl, j0, j1, q1⟩ := q1
      cases r1
      exact ⟨j, rfl, RgOk.of_le (by omega) j1 (by omega) j0, (kv.to e1).newLst s1 rep_rg q1⟩
    · cases hx
theorem snd_dnew {tk : Bool} : Snd CX G Φ n (.dnew tk) := by
  refine sndE _ (fun N k e => match e with | .Dict [] [] _ => true | _ => false) rfl (fun N => rfl) (fun N k x hx => by split at hx <;> first | rfl | cases hx) fun {N E k X x} o hN hx => ?_
  split at hx
  · cases tk with
    | true =>
      refine PE.imp pe_dnewT fun σ H Q q => ?_
      obtain ⟨h, ρ, S, Q0, Y, s, q, kv, kx⟩ := q
      intro p hp
      exact kv _ _ _ _ ⟨fun i w e => let ⟨v, e1, e2⟩ := s.var i w e; ⟨v, e1, e2.mono (same_newc s.sto hp)⟩, s.len, s.sto.newc hp (show ObR _ _ _ _ (.dt []) _ from ⟨_, rfl, .nil⟩)⟩ (same_newc s.sto hp) (.ref p) (q p (s.sto.free hp))
    | false =>
      refine PE.imp pe_dnewK fun σ H Q q => ?_
      obtain ⟨h, ρ, S, Q0, Y, s, q, kv, kx⟩ := q
      intro p hp
      exact kv _ _ _ _ ⟨fun i w e => let ⟨v, e1, e2⟩ := s.var i w e; ⟨v, e1, e2.mono (same_newc s.sto hp)⟩, s.len, s.sto.newc hp (show ObR _ _ _ _ (.dk []) _ from ⟨_, rfl, .nil⟩)⟩ (same_newc s.sto hp) (.ref p) (q p (s.sto.free hp))
  · cases hx
theorem XCk.more {K : KH} {E : XK} {S : Sto} {H : Hp} {Y : XC} {p : Addr} {o : HO} (k : StoOk K S H) (hp : H p = none) (kx : XCk K E S H Y) : XCk (K.more p) E S (upd H p o) Y := fun x S' H' d k' e r h => by
  refine kx x S' H' d k'.unhide ((same_new k hp).trans e) ?_ h
  unfold XRep at r ⊢
  split at r
  · exact r
  · obtain ⟨dd, v, a, b, c⟩ := r
    exact ⟨dd, v, a, b, c.unhide⟩
theorem snd_dct {as : CE} (hs : ∀ a ∈ itm as, Snd CX G Φ n a) : Snd CX G Φ n (.dct as) := by
  refine sndE _ (fun N k e => match e with
    | .Dict ks vs _ => (match altE ks vs with | some es => (ck G N n as).es k es && decide (ks.length ≤ 15) && !ks.isEmpty | none => false)
    | _ => false) rfl (fun N => rfl) (fun N k x hx => by cases x <;> first | rfl | cases hx) fun {N E k X x} o hN hx => ?_
  cases x with
  | Dict ks vs pos =>
    simp only at hx
    split at hx
    · rename_i es he
      simp only [Bool.and_eq_true, decide_eq_true_eq] at hx
      obtain ⟨⟨h1, h2⟩, h3⟩ := hx
      obtain ⟨p1, p2, p3, p4⟩ := pps_of (pos := pos) o hN _ rfl hs he h1
      refine PE.imp (pe_disp p1 p3 p4 (fun z => by rw [z] at h3; cases h3) h2) fun σ H Q q => ?_
      obtain ⟨h, ρ, S, Q0, Y, s, q, kv, kx⟩ := q
      intro p hp
      have hF : fz S H p = none := by
        unfold fz
        split <;> first | rfl | exact hp
      have nD := s.sto.nohid hp
      refine imp_pairs (h := (((⟨X.K, E⟩ : Ct0).at h).K.more p).h) as p2 (s.hide hp) q (fun ws S1 vs1 H1 s1 e1 r1 q1 => ?_) (kx.more s.sto hp)
      have hS : S p = none := s.sto.free hp
      have dAt : H1 p = some (.dK []) := (fz_some (e1 p _ (by rw [fz_none hS]; exact upd_same))).2
      refine ⟨dAt, ?_⟩
      obtain ⟨kvs, hk, hl, q1⟩ := q1
      obtain ⟨ps, b1, b2, b3⟩ := puts_v r1 .nil hk
      refine ⟨ps, b1, by omega, ?_⟩
      have e01 : Same (fz S H) (fz S1 H1) := (same_new s.sto hp).trans e1
      have s1' : Sim (((⟨X.K, E⟩ : Ct0).at h).K.more p) ρ σ S1 (upd H1 p (.dK (mergeK [] ps))) := s1.hidden KH.more_at
      refine kv _ _ _ _ (s1'.cellO nD upd_same (show ObR _ _ _ _ (.dk kvs) _ from ⟨_, rfl, b3.hidden KH.more_at fz_hid⟩)) (fun b u z => ?_) (.ref p) (q1 p (s1.sto.hid p KH.more_at).1)
      have hb := ne_of_none z hF
      have := e01 b u z
      unfold fz at this ⊢
      rw [sup_ne hb, upd_ne hb]
      exact this
    · cases hx
  | _ => cases hx
theorem snd_all2 : ∀ c : CE, Snd CX G Φ n c ∧ ∀ a ∈ itm c, Snd CX G Φ n a := by
  intro c
  induction c with
  | cons a as h1 h2 => exact ⟨snd_cons h1.1 h2.1, fun z hz => by
      rcases List.mem_cons.mp hz with rfl | hz
      · exact h1.1
      · exact h2.2 z hz⟩
  | nil => exact ⟨snd_nil, fun z hz => nomatch hz⟩
  | var i => exact ⟨snd_var i, fun z hz => nomatch hz⟩
  | cst c => exact ⟨snd_cst c, fun z hz => nomatch hz⟩
  | glb x c => exact ⟨snd_glb x c, fun z hz => nomatch hz⟩
  | bin live op a b h1 h2 => exact ⟨snd_bin h1.1 h2.1, fun z hz => nomatch hz⟩
  | neg a h1 => exact ⟨snd_neg h1.1, fun z hz => nomatch hz⟩
  | nt a h1 => exact ⟨snd_nt h1.1, fun z hz => nomatch hz⟩
  | cmp op a b h1 h2 => exact ⟨snd_cmp h1.1 h2.1, fun z hz => nomatch hz⟩
  | chain o1 o2 a b c h1 h2 h3 => exact ⟨snd_chain h1.1 h2.1 h3.1, fun z hz => nomatch hz⟩
  | an as h1 => exact ⟨snd_an h1.1, fun z hz => nomatch hz⟩
  | or as h1 => exact ⟨snd_or h1.1, fun z hz => nomatch hz⟩
  | ife t a b h1 h2 h3 => exact ⟨snd_ife h1.1 h2.1 h3.1, fun z hz => nomatch hz⟩
  | call f as h1 => exact ⟨snd_call h1.1, fun z hz => nomatch hz⟩
  | blt b live as h1 => exact ⟨snd_blt h1.1, fun z hz => nomatch hz⟩
  | mth m o as h1 h2 => exact ⟨snd_mth h1.1 h2.1, fun z hz => nomatch hz⟩
  | idx a b h1 h2 => exact ⟨snd_idx h1.1 h2.1, fun z hz => nomatch hz⟩
  | slc live a lo hi h1 h2 h3 => exact ⟨snd_slc h1.1 h2.1 h3.1, fun z hz => nomatch hz⟩
  | rev live a h1 => exact ⟨snd_rev h1.1, fun z hz => nomatch hz⟩
  | tup as h1 => exact ⟨snd_tup h1.1, fun z hz => nomatch hz⟩
  | lst live as h1 => exact ⟨snd_lst h1.1, fun z hz => nomatch hz⟩
  | dnew tk => exact ⟨snd_dnew, fun z hz => nomatch hz⟩
  | dct as h1 => exact ⟨snd_dct h1.2, fun z hz => nomatch hz⟩
  | lc live own tg it cond elt h1 h2 h3 h4 => exact ⟨snd_lc h1.1 h2.1 h3.1 h4.1, fun z hz => nomatch hz⟩
  | frz a h1 => exact ⟨snd_frz h1.1, fun z hz => nomatch hz⟩
  | lrg live a h1 => exact ⟨snd_lrg h1.1, fun z hz => nomatch hz⟩
  | lzip live a b h1 h2 => exact ⟨snd_lzip h1.1 h2.1, fun z hz => nomatch hz⟩
  | stp live a s h1 h2 => exact ⟨snd_stp h1.1 h2.1, fun z hz => nomatch hz⟩
  | sset live a h1 => exact ⟨snd_sset h1.1, fun z hz => nomatch hz⟩
  | rpr a h1 => exact ⟨snd_rpr h1.1, fun z hz => nomatch hz⟩
  | isi a t h1 => exact ⟨snd_isi h1.1, fun z hz => nomatch hz⟩
  | lset a h1 => exact ⟨snd_lset h1.1, fun z hz => nomatch hz⟩
  | lvals live a h1 => exact ⟨snd_lvals h1.1, fun z hz => nomatch hz⟩
  | bck a b c h1 h2 h3 => exact ⟨snd_bck h1.1 h2.1 h3.1, fun z hz => nomatch hz⟩
  | lck a h1 => exact ⟨snd_lck h1.1, fun z hz => nomatch hz⟩
  | ikeys a h1 => exact ⟨snd_ikeys h1.1, fun z hz => nomatch hz⟩
  | tnm i => exact ⟨snd_tnm i, fun z hz => nomatch hz⟩
  | ttup ts h1 => exact ⟨snd_ttup h1.1, fun z hz => nomatch hz⟩
  | tsub o i h1 h2 => exact ⟨snd_tsub h1.1 h2.1, fun z hz => nomatch hz⟩
  | iseq a h1 => exact ⟨snd_iseq h1.1, fun z hz => nomatch hz⟩
  | irng1 a h1 => exact ⟨snd_irng1 h1.1, fun z hz => nomatch hz⟩
  | irng2 a b h1 h2 => exact ⟨snd_irng2 h1.1 h2.1, fun z hz => nomatch hz⟩
  | irng3 a b c h1 h2 h3 => exact ⟨snd_irng3 h1.1 h2.1 h3.1, fun z hz => nomatch hz⟩
  | izip a b h1 h2 => exact ⟨snd_izip h1.1 h2.1, fun z hz => nomatch hz⟩
  | ienm a h1 => exact ⟨snd_ienm h1.1, fun z hz => nomatch hz⟩
theorem snd_all (c : CE) : Snd CX G Φ n c := (snd_all2 c).1
end
end MP

set_option Elab.async false
set_option linter.all false
set_option maxRecDepth 100000
set_option maxHeartbeats 4000000
/-! MP12: statements: the check, and what it is worth. -/
namespace MP
open PySem PySem.Spec PyProof.Rows L2

/-! ### what an assignment's form means -/
def kFn (sc : Scope) : Bool := match sc.kind with | .function => true | _ => false
theorem kFn_of {sc : Scope} (h : kFn sc = true) : sc.kind = .function := by
  unfold kFn at h
  split at h
  · assumption
  · cases h
def swB (sc : Scope) (value tg : Expr) : Bool :=
  match value, tg with
  | .ListComp _ _ s p, .Name t q => (sc.names.lookup t == some .local && q.line == p.line && !(s.names.any fun (n, k) => n == t && (k == .local || k == .cell)))
  | _, _ => false
def notSD : Expr → Bool | .SetComp .. => false | .DictComp .. => false | _ => true
theorem sw_eq {sc : Scope} {env : PySem.Env} {value tg : Expr} {l : Nat} (hs : env.scope = sc) (hk : kFn sc = true) (h : notSD value = true) : swapsWith value (some tg) l env = pure (swB sc value tg) := by
  have hb : env.blockKind = .function := by
    unfold Env.blockKind
    rw [hs, kFn_of hk]
    rfl
  cases value with
  | ListComp elt gs s p =>
    cases tg with
    | Name t q =>
      unfold swapsWith swB
      simp only [hb]
      subst hs
      rfl
    | _ => rfl
  | SetComp => cases h
  | DictComp => cases h
  | _ => rfl
def notTupE : Expr → Bool | .Tuple .. => false | _ => true
def notTL : Expr → Bool | .Tuple .. => false | .List .. => false | _ => true
theorem sws_none {tg e : Expr} {env : PySem.Env} (h : (notTupE e || notTL tg) = true) : swappedStores [tg] e env = pure none := by
  cases e <;> first | (cases tg <;> first | rfl | cases h) | (cases tg <;> rfl)
def swsN (sc : Scope) (ts : List Expr) : List Str := ts.filterMap fun
  | .Name id pos => if (sc.names.lookup id == some .local && pos.line == (ts.head?.map (·.pos.line)).getD 0) = true then some id else none
  | _ => none
def swsB (sc : Scope) (ts vs : List Expr) : Bool :=
  (ts.length == 2 || ts.length == 3) && (vs.length == ts.length) && vs.all notStar && ((swsN sc ts).length == ts.length) && ((swsN sc ts).eraseDups.length == (swsN sc ts).length) && !vs.all (foldedForSure 8) && !vs.all (constantsAlone 8)
theorem star_any : ∀ {vs : List Expr}, vs.all notStar = true → (vs.any fun | .Starred .. => true | _ => false) = false
  | [], _ => rfl
  | x :: xs, h => by
    rw [List.all_cons, Bool.and_eq_true] at h
    rw [List.any_cons, star_any h.2]
    cases x <;> first | rfl | cases h.1
def swsF (c1 star : Bool) (names : List Str) (ts vs : List Expr) : Sem (Option (List Str)) := do
  if c1 then return none
  if star then return none
  if names.length != ts.length || names.eraseDups.length != names.length then return none
  if vs.all (foldedForSure 8) then return none
  if vs.all (constantsAlone 8) then unsupported "assign.tuple-of-constant-expressions:order-of-the-stores"
  return some names
theorem sws_eq {sc : Scope} {env : PySem.Env} {ts vs : List Expr} {k k2 : Nat} {p p2 : Pos} (hs : env.scope = sc) (hk : kFn sc = true) (h : swsB sc ts vs = true) : swappedStores [.Tuple ts k p] (.Tuple vs k2 p2) env = pure (some (swsN sc ts)) := by
  have hb : (env.blockKind != .function) = false := by
    unfold Env.blockKind
    rw [hs, kFn_of hk]
    rfl
  subst hs
  unfold swsB at h
  simp only [Bool.and_eq_true, Bool.not_eq_true'] at h
  obtain ⟨⟨⟨⟨⟨⟨h1, h2⟩, h3⟩, h4⟩, h5⟩, h6⟩, h7⟩ := h
  have e : swappedStores [.Tuple ts k p] (.Tuple vs k2 p2) env = swsF (!(ts.length == 2 || ts.length == 3) || vs.length != ts.length || env.blockKind != .function) (vs.any fun | .Starred .. => true | _ => false) (swsN env.scope ts) ts vs := rfl
  have e2 : (vs.length != ts.length) = false := by simpa using h2
  have e4 : ((swsN env.scope ts).length != ts.length) = false := by simpa using h4
  have e5 : ((swsN env.scope ts).eraseDups.length != (swsN env.scope ts).length) = false := by simpa using h5
  rw [e, hb, h1, e2, star_any h3]
  unfold swsF
  simp only [e4, e5, h6, h7]
  rfl
/-- names that aren't all plain local: no stores are swapped -/
def swsZ (sc : Scope) (tg e : Expr) : Bool := match tg, e with
  | .Tuple ts _ _, .Tuple vs _ _ => vs.all notStar && ((swsN sc ts).length != ts.length)
  | _, _ => false
theorem sws_zero {sc : Scope} {tg e : Expr} {env : PySem.Env} (hs : env.scope = sc) (h : swsZ sc tg e = true) : swappedStores [tg] e env = pure none := by
  subst hs
  unfold swsZ at h
  split at h
  · rename_i ts k p vs k2 p2
    simp only [Bool.and_eq_true] at h
    have e : swappedStores [.Tuple ts k p] (.Tuple vs k2 p2) env = swsF (!(ts.length == 2 || ts.length == 3) || vs.length != ts.length || env.blockKind != .function) (vs.any fun | .Starred .. => true | _ => false) (swsN env.scope ts) ts vs := rfl
    rw [e, star_any h.1]
    generalize (!(ts.length == 2 || ts.length == 3) || vs.length != ts.length || env.blockKind != .function) = c1
    unfold swsF
    simp only [h.2, Bool.true_or]
    cases c1 <;> rfl
  · cases h
structure CKS where
  s : Sk → Stmt → Bool
  b : Sk → List Stmt → Bool
def ck1 (f : Sk → Stmt → Bool) : CKS := { s := f, b := fun k sts => match sts with | [st] => f k st | _ => false }
/-- a list comprehension put under a name -/
def ckL (G : Gv) (N : List Str) (n : Nat) (t e : CE) (k : Sk) (tg v : Expr) : Bool :=
  match t, e, tg, v with
  | .tnm i, .lc _ own tg' it cond elt, .Name y _, .ListComp x [⟨t', i', ifs, 0⟩] scope _ =>
    decide (N[i]? = some y) && decide (k.sc.names.lookup y = some .local) && blkC N k.sc scope own && notSet i' && (als tg').all (fun j => (own.map (·.2)).contains j) && (ck G N n it).i k t' i' &&
        (ck G N n tg').g ⟨relS scope k.sc, some scope⟩ t' && (ck G N n cond).c ⟨relS scope k.sc, some scope⟩ ifs && (ck G N n elt).e ⟨relS scope k.sc, some scope⟩ x
  | _, _, _, _ => false
def isGh : CS → Bool
  | .gfrz _ => true
  | .gdrop => true
  | .gfr2 _ => true
  | _ => false
def nmE : Expr → Option Str
  | .Name x _ => some x
  | _ => none
def cks (G : Gv) (N : List Str) (n : Nat) : CS → CKS
  | .nil => { s := fun _ _ => false, b := fun _ sts => sts.isEmpty }
  | .seq s r => { s := fun _ _ => false, b := fun k sts => if isGh s = true then (cks G N n r).b k sts else match sts with | st :: rest => (cks G N n s).s k st && (cks G N n r).b k rest | [] => false }
  | .asg t e => ck1 fun k st => match st with
    | .Assign [tg] v _ => kFn k.sc && notStar tg && notSD v && (notTupE v || notTL tg || swsZ k.sc tg v) && (if swB k.sc v tg = true then ckL G N n t e k tg v else (ck G N n e).e k v && (ck G N n t).g k tg)
    | _ => false
  | .par is es => ck1 fun k st => match st, is with
    | .Assign [.Tuple [.Name x px, .Name y py] _ _] (.Tuple [a, b] _ _) _, [i, j] => kFn k.sc && swsB k.sc [.Name x px, .Name y py] [a, b] && decide (swsN k.sc [.Name x px, .Name y py] = [x, y]) && decide (N[i]? = some x) && decide (N[j]? = some y) && decide (i ≠ j) &&
        decide (k.sc.names.lookup x = some .local) && decide (k.sc.names.lookup y = some .local) && (ck G N n es).es k [a, b]
    | .Assign [.Tuple [.Name x px, .Name y py, .Name z pz] _ _] (.Tuple [a, b, c] _ _) _, [i, j, l] => kFn k.sc && swsB k.sc [.Name x px, .Name y py, .Name z pz] [a, b, c] && decide (swsN k.sc [.Name x px, .Name y py, .Name z pz] = [x, y, z]) &&
        decide (N[i]? = some x) && decide (N[j]? = some y) && decide (N[l]? = some z) && decide (i ≠ j) && decide (i ≠ l) && decide (j ≠ l) &&
        decide (k.sc.names.lookup x = some .local) && decide (k.sc.names.lookup y = some .local) && decide (k.sc.names.lookup z = some .local) && (ck G N n es).es k [a, b, c]
    | _, _ => false
  | .aug i sb e => ck1 fun k st => match st with
    | .AugAssign (.Name x _) op v _ => decide (op = if sb = true then Operator.Sub else Operator.Add) && decide (N[i]? = some x) && stoC k x && (ck G N n e).e k v
    | _ => false
  | .augS o i sb e => ck1 fun k st => match st with
    | .AugAssign (.Subscript x y _) op v _ => decide (op = if sb = true then Operator.Sub else Operator.Add) && notSlice y && (ck G N n o).e k x && (ck G N n i).e k y && (ck G N n e).e k v
    | _ => false
  | .expr e => ck1 fun k st => match st with | .Expr v _ => notSD v && (match v with | .ListComp .. => false | _ => true) && (ck G N n e).e k v | _ => false
  | .ret e => ck1 fun k st => match st with | .Return (some v) _ => (ck G N n e).e k v | _ => false
  | .retN => ck1 fun _ st => match st with | .Return none _ => true | _ => false
  | .iff t a b => ck1 fun k st => match st with | .If c x y _ => (ck G N n t).e k c && (cks G N n a).b k x && (cks G N n b).b k y | _ => false
  | .fr t it b => ck1 fun k st => match st with | .For tg v body [] _ => notSet v && (ck G N n it).i k tg v && (ck G N n t).g k tg && (cks G N n b).b k body | _ => false
  | .whl t b => ck1 fun k st => match st with | .While c body [] _ => (ck G N n t).e k c && (cks G N n b).b k body | _ => false
  | .cont => ck1 fun _ st => match st with | .Continue _ => true | _ => false
  | .brk => ck1 fun _ st => match st with | .Break _ => true | _ => false
  | .pass => ck1 fun _ st => match st with | .Pass _ => true | _ => false
  | .gfrz _ => { s := fun _ _ => false, b := fun _ sts => sts.isEmpty }
  | .gfr2 _ => { s := fun _ _ => false, b := fun _ sts => sts.isEmpty }
  | .gdrop => { s := fun _ _ => false, b := fun _ sts => sts.isEmpty }
  | .never => { s := fun _ _ => true, b := fun _ _ => true }

section
variable {CX : CXT} {G : Gv} {Φ : Nat → Spec} {n : Nat} {N : List Str} {E : L2.St → XK} {k : Sk} {X : Cx}
structure SndS (CX : CXT) (G : Gv) (Φ : Nat → Spec) (n : Nat) (N : List Str) (c : CS) : Prop where
  s : ∀ {E : L2.St → XK} {k : Sk} {X : Cx} {st : Stmt}, XOk CX G Φ n E k X → X.N = N → (cks G N n c).s k st = true → PS X st (tOfS ⟨X.K, E⟩ (wps Φ c))
  b : ∀ {E : L2.St → XK} {k : Sk} {X : Cx} {sts : List Stmt}, XOk CX G Φ n E k X → X.N = N → (cks G N n c).b k sts = true → PSs X sts (tOfS ⟨X.K, E⟩ (wps Φ c))
theorem snds1 {c : CS} (f : Sk → Stmt → Bool) (hc : cks G N n c = ck1 f) (h : ∀ {E : L2.St → XK} {k : Sk} {X : Cx} {st : Stmt}, XOk CX G Φ n E k X → X.N = N → f k st = true → PS X st (tOfS ⟨X.K, E⟩ (wps Φ c))) : SndS CX G Φ n N c := by
  refine ⟨fun {E k X st} o hN hx => ?_, fun {E k X sts} o hN hx => ?_⟩
  · rw [hc] at hx
    exact h o hN hx
  · rw [hc] at hx
    cases sts with
    | nil => cases hx
    | cons st r =>
      cases r with
      | nil => exact pss_one (h o hN hx)
      | cons _ _ => cases hx
/-- what follows an expression within a statement -/
theorem kvS {c : Ct0} {h : Addr → Bool} {ρ : Env} {σ : L2.St} {S : Sto} {H : Hp} {D' : WEnds} {D : Ends} (e : EndsOk (c.at h) ρ σ S H D' D) : XCk (c.at h).K (c.E σ) S H D'.xc := e.xc σ
theorem EndsOk.seq {C : Ctx} {ρ : Env} {σ : L2.St} {S : Sto} {H : Hp} {D' : WEnds} {D : Ends} {r : WS} {u : TS} (k : EndsOk C ρ σ S H D' D)
    (hr : ∀ ρ1 S1 σ1 H1, Sim C.K ρ1 σ1 S1 H1 → Same (fz S H) (fz S1 H1) → r ρ1 S1 D' → u D σ1 H1) : EndsOk C ρ σ S H { D' with nx := fun ρ1 S1 => r ρ1 S1 D' } { D with nx := u D } :=
  ⟨hr, k.rt, k.bk, k.ct, k.xc⟩
theorem snds_nil : SndS CX G Φ n N .nil := by
  refine ⟨fun {E k X st} o hN hx => (by cases hx), fun {E k X sts} o hN hx => ?_⟩
  have hx' : sts.isEmpty = true := hx
  cases sts with
  | cons _ _ => cases hx'
  | nil =>
    refine PSs.imp pss_nil fun D σ H q => ?_
    obtain ⟨h, ρ, S, D', s, q, k⟩ := q
    exact k.nx _ _ _ _ s (Same.refl _) q
theorem gh_imp {c : Ct0} {s r : CS} {D : Ends} {σ : L2.St} {H : Hp} (hs : isGh s = true) (q : tOfS c (wps Φ (.seq s r)) D σ H) : tOfS c (wps Φ r) D σ H := by
  obtain ⟨h, ρ, S, D', s', q, k⟩ := q
  cases s with
  | gfrz i =>
    obtain ⟨p, ws, hr, hp, q⟩ := q
    obtain ⟨v, hv, rv⟩ := s'.var i _ hr
    cases rv
    obtain ⟨u, hu, vs, rfl, r1⟩ := s'.sto.at' p _ hp
    have hf : fz (sdel S p) H p = some (.lst vs) := by rw [fz_none sdel_same]; exact hu
    have nh : ((c.at h).K).h p = false := by
      cases e : ((c.at h).K).h p with
      | false => rfl
      | true =>
        have := (s'.sto.hid p e).1
        rw [hp] at this; cases this
    have s2 : Sim (c.at h).K (ρ.set i (some (.lst ws))) (σ.set i (some (.ref p))) (sdel S p) H := (s'.to same_del s'.sto.del).set (.lst nh (.inl hf) (r1.mono same_del))
    have e : σ.set i (some (.ref p)) = σ := by
      apply List.ext_getElem?
      intro j
      by_cases hj : i = j
      · subst hj
        have hl : i < σ.length := by
          have := List.getElem?_eq_some_iff.mp hv
          exact this.1
        rw [List.getElem?_set_self hl, hv]
      · rw [List.getElem?_set_ne hj]
    rw [e] at s2
    exact ⟨h, _, _, D', s2, q, k.to same_del⟩
  | gfr2 i =>
    obtain ⟨p1, p2, xs, ys, hr, hp, hq, ne, q⟩ := q
    obtain ⟨v, hv, rv⟩ := s'.var i _ hr
    cases rv with
    | tup nk ht rr =>
      obtain _ | ⟨rx, _ | ⟨ry, _ | _⟩⟩ := rr
      cases rx
      cases ry
      obtain ⟨u1, hu1, vs1, rfl, r1⟩ := s'.sto.at' p1 _ hp
      obtain ⟨u2, hu2, vs2, rfl, r2⟩ := s'.sto.at' p2 _ hq
      have sm : Same (fz S H) (fz (sdel (sdel S p1) p2) H) := same_del.trans same_del
      have st2 : StoOk (c.at h).K (sdel (sdel S p1) p2) H := s'.sto.del.del
      have nh : ∀ {p : Addr} {o : Ob}, S p = some o → ((c.at h).K).h p = false := fun {p o} hp => by
        cases e : ((c.at h).K).h p with
        | false => rfl
        | true =>
          have := (s'.sto.hid p e).1
          rw [hp] at this; cases this
      have f1 : fz (sdel (sdel S p1) p2) H p1 = some (.lst vs1) := by rw [fz_none (by rw [sdel_ne ne, sdel_same])]; exact hu1
      have f2 : fz (sdel (sdel S p1) p2) H p2 = some (.lst vs2) := by rw [fz_none sdel_same]; exact hu2
      have s2 := (s'.to sm st2).set (i := i) (w := .tup [.lst xs, .lst ys]) (.tup nk (sm _ _ ht) (.cons (.lst (nh hp) (.inl f1) (r1.mono sm)) (.cons (.lst (nh hq) (.inl f2) (r2.mono sm)) .nil)))
      have e : ∀ v, σ[i]? = some (some v) → σ.set i (some v) = σ := fun v hv => by
        apply List.ext_getElem?
        intro j
        by_cases hj : i = j
        · subst hj
          have hl : i < σ.length := (List.getElem?_eq_some_iff.mp hv).1
          rw [List.getElem?_set_self hl, hv]
        · rw [List.getElem?_set_ne hj]
      rw [e _ hv] at s2
      exact ⟨h, _, _, D', s2, q, k.to sm⟩
  | gdrop =>
    obtain ⟨S', f, q⟩ := q
    exact ⟨h, ρ, S', D', s'.to (same_fewer f) (s'.sto.fewer f), q, k.to (same_fewer f)⟩
  | _ => cases hs
theorem snds_gh {s : CS} (hs : isGh s = true) (h1 : ∀ k st, (cks G N n s).s k st = false) (h2 : ∀ k sts, (cks G N n s).b k sts = sts.isEmpty) : SndS CX G Φ n N s := by
  refine ⟨fun {E k X st} o hN hx => (by rw [h1] at hx; cases hx), fun {E k X sts} o hN hx => ?_⟩
  rw [h2] at hx
  cases sts with
  | cons _ _ => cases hx
  | nil =>
    refine PSs.imp (snds_nil.b (sts := []) o hN rfl) fun D σ H q => gh_imp hs ?_
    obtain ⟨h, ρ, S, D', s', q, k⟩ := q
    exact ⟨h, ρ, S, D', s', q, k⟩
theorem snds_seq {s r : CS} (h1 : SndS CX G Φ n N s) (h2 : SndS CX G Φ n N r) : SndS CX G Φ n N (.seq s r) := by
  refine ⟨fun {E k X st} o hN hx => (by cases hx), fun {E k X sts} o hN hx => ?_⟩
  by_cases hg : isGh s = true
  · have hx' : (cks G N n r).b k sts = true := by
      have : (if isGh s = true then (cks G N n r).b k sts else _) = true := hx
      rwa [if_pos hg] at this
    exact PSs.imp (h2.b o hN hx') fun D σ H q => gh_imp hg q
  · cases sts with
    | nil =>
      have : (if isGh s = true then (cks G N n r).b k [] else false) = true := hx
      rw [if_neg hg] at this
      cases this
    | cons st rest =>
      have hx' : (if isGh s = true then (cks G N n r).b k (st :: rest) else (cks G N n s).s k st && (cks G N n r).b k rest) = true := hx
      rw [if_neg hg, Bool.and_eq_true] at hx'
      refine PSs.imp (pss_cons (h1.s o hN hx'.1) (h2.b o hN hx'.2)) fun D σ H q => ?_
      obtain ⟨h, ρ, S, D', s', q, k'⟩ := q
      exact ⟨h, ρ, S, _, s', q, k'.seq fun ρ1 S1 σ1 H1 s1 e1 q1 => ⟨h, ρ1, S1, D', s1, q1, k'.to e1⟩⟩
theorem snds_asg {t e : CE} : SndS CX G Φ n N (.asg t e) := by
  refine snds1 _ rfl fun {E k X st} o hN hx => ?_
  split at hx
  · rename_i tg v pos
    simp only [Bool.and_eq_true] at hx
    obtain ⟨⟨⟨⟨h1, h2⟩, h3⟩, h4⟩, h5⟩ := hx
    have sw := sw_eq (l := pos.line) (value := v) (tg := tg) o.sc h1 h3
    have fin : ∀ {D : Ends} {σ : L2.St} {H : Hp}, tOfS ⟨X.K, E⟩ (wps Φ (.asg t e)) D σ H → tAsg (tOf ⟨X.K, E⟩ (wp Φ e).e) (tOfG ⟨X.K, E⟩ (als t) (wp Φ t).g) D σ H := fun q => by
      obtain ⟨h, ρ, S, D', s', q, k'⟩ := q
      refine ⟨h, ρ, S, _, _, s', q, fun w S1 v H1 s1 e1 r1 q1 => ?_, k'.xc _⟩
      exact ⟨h, w, ρ, S1, _, s1, r1, q1, fun ρ2 S2 σ2 H2 s2 e2 _ q2 => k'.nx _ _ _ _ s2 (e1.trans e2) q2⟩
    by_cases hs : swB k.sc v tg = true
    · rw [if_pos hs] at h5
      unfold ckL at h5
      split at h5
      · rename_i i live own tg' it cond elt y py x t' i' ifs scope p2
        simp only [Bool.and_eq_true] at h5
        obtain ⟨⟨⟨⟨⟨⟨⟨⟨b1, b2⟩, a1⟩, a2⟩, a3⟩, a4⟩, a5⟩, a6⟩, a7⟩ := h5
        have b2' : X.env.scope.names.lookup y = some .local := by rw [o.sc]; exact of_decide_eq_true b2
        have ok : BlkOk X.N X.env.scope scope own := by rw [hN, o.sc]; exact blkOk_by a1
        rw [hs] at sw
        refine PS.imp (ps_setLc (i := i) (g := tOfG ⟨X.K, fun _ => E0⟩ (als tg') (wp Φ tg').g) (tt := tOfT ⟨X.K, fun _ => E0⟩ fun ρ S Q _ => (wp Φ cond).c ρ S Q) (te := tOf ⟨X.K, fun _ => E0⟩ (wp Φ elt).e) o.calm o.nd
          (by rw [hN]; exact of_decide_eq_true b1) b2' sw ((snd_all it).i o hN a4) ok (fun s H C cl fp => (snd_all tg').g (ok_blk o) hN a5) (fun s H C cl fp => (snd_all cond).cc (ok_blk o) hN a6) (fun s H C cl fp => (snd_all elt).e (ok_blk o) hN a7) (fold_of a2)) fun D σ H q => ?_
        obtain ⟨h, ρ, S, D', s', q, k'⟩ := q
        refine imp_lc (c := ⟨X.K, E⟩) (c' := ⟨X.K, fun _ => E0⟩) rfl (fun j hj => by simpa using List.all_eq_true.mp a3 j hj) ⟨h, ρ, S, _, _, s', q, fun w S1 v H1 s1 e1 r1 q1 => ?_, k'.xc _⟩
        exact k'.nx _ _ _ _ (s1.set r1) e1 q1
      · cases h5
    · rw [if_neg hs, Bool.and_eq_true] at h5
      have hs' : swB k.sc v tg = false := by simpa using hs
      rw [hs'] at sw
      exact PS.imp (ps_asg ((snd_all e).e o hN h5.1) ((snd_all t).g o hN h5.2) sw (by rw [Bool.or_eq_true] at h4; exact h4.elim sws_none (sws_zero o.sc)) (by rw [asg_of h2]; rfl)) fun D σ H q => fin q
  · cases hx
theorem setAll2 {ρ : Env} {i j : Nat} {w v : W} : setAll ρ [i, j] [w, v] = (ρ.set i (some w)).set j (some v) := rfl
theorem snds_par {is : List Nat} {es : CE} : SndS CX G Φ n N (.par is es) := by
  refine snds1 _ rfl fun {E k X st} o hN hx => ?_
  split at hx
  · rename_i x px y py k1 p1 a b k2 p2 pos i j
    simp only [Bool.and_eq_true] at hx
    obtain ⟨⟨⟨⟨⟨⟨⟨⟨h1, h2⟩, h3⟩, h4⟩, h5⟩, h6⟩, h7⟩, h8⟩, h9⟩ := hx
    have hw := sws_eq (k := k1) (p := p1) (k2 := k2) (p2 := p2) o.sc h1 h2
    rw [of_decide_eq_true h3] at hw
    refine PS.imp (ps_par (i := i) (j := j) o.calm o.nd (by rw [hN]; exact of_decide_eq_true h4) (by rw [hN]; exact of_decide_eq_true h5) (of_decide_eq_true h6) (by rw [o.sc]; exact of_decide_eq_true h7) (by rw [o.sc]; exact of_decide_eq_true h8) ((snd_all es).es o hN h9) hw) fun D σ H q => ?_
    obtain ⟨h, ρ, S, D', s', q, k'⟩ := q
    refine ⟨h, ρ, S, _, _, s', q, fun ws S1 vs H1 s1 e1 r1 q1 => ?_, k'.xc _⟩
    obtain ⟨hl, q1⟩ := q1
    match ws, hl, r1, q1 with
    | [w1, w2], _, .cons r1 (.cons r2 .nil), q1 => exact ⟨_, _, rfl, k'.nx _ _ _ _ ((s1.set r1).set r2) e1 q1⟩
  · rename_i x px y py z pz k1 p1 a b c k2 p2 pos i j l
    simp only [Bool.and_eq_true] at hx
    obtain ⟨⟨⟨⟨⟨⟨⟨⟨⟨⟨⟨⟨h1, h2⟩, h3⟩, h4⟩, h5⟩, h6⟩, h7⟩, h8⟩, h9⟩, g1⟩, g2⟩, g3⟩, g4⟩ := hx
    have hw := sws_eq (k := k1) (p := p1) (k2 := k2) (p2 := p2) o.sc h1 h2
    rw [of_decide_eq_true h3] at hw
    refine PS.imp (ps_par3 (i := i) (j := j) (l := l) o.calm o.nd (by rw [hN]; exact of_decide_eq_true h4) (by rw [hN]; exact of_decide_eq_true h5) (by rw [hN]; exact of_decide_eq_true h6) (of_decide_eq_true h7) (of_decide_eq_true h8) (of_decide_eq_true h9)
      (by rw [o.sc]; exact of_decide_eq_true g1) (by rw [o.sc]; exact of_decide_eq_true g2) (by rw [o.sc]; exact of_decide_eq_true g3) ((snd_all es).es o hN g4) hw) fun D σ H q => ?_
    obtain ⟨h, ρ, S, D', s', q, k'⟩ := q
    refine ⟨h, ρ, S, _, _, s', q, fun ws S1 vs H1 s1 e1 r1 q1 => ?_, k'.xc _⟩
    obtain ⟨hl, q1⟩ := q1
    match ws, hl, r1, q1 with
    | [w1, w2, w3], _, .cons r1 (.cons r2 (.cons r3 .nil)), q1 => exact ⟨_, _, _, rfl, k'.nx _ _ _ _ (((s1.set r1).set r2).set r3) e1 q1⟩
  · cases hx
theorem ip_of {sb : Bool} : PIp X (if sb = true then Operator.Sub else Operator.Add) (ipI (augI sb)) := by
  cases sb with
  | true => exact ip_sub
  | false => exact ip_add
theorem snds_aug {i : Nat} {sb : Bool} {e : CE} : SndS CX G Φ n N (.aug i sb e) := by
  refine snds1 _ rfl fun {E k X st} o hN hx => ?_
  split at hx
  · rename_i x px op v pos
    simp only [Bool.and_eq_true] at hx
    obtain ⟨⟨⟨h1, h2⟩, h3⟩, h4⟩ := hx
    obtain rfl := of_decide_eq_true h1
    have l := loc_of o h3
    refine PS.imp (ps_aug (i := i) o.nd (by rw [hN]; exact of_decide_eq_true h2) l.1 ((snd_all e).e o hN h4) ip_of l.2) fun D σ H q => ?_
    obtain ⟨h, ρ, S, D', s', ⟨w, hw, q⟩, k'⟩ := q
    obtain ⟨u, hu, ru⟩ := s'.var i _ hw
    refine ⟨u, hu, h, ρ, S, _, _, s', q, fun y S1 v H1 s1 e1 r1 q1 => ?_, k'.xc _⟩
    obtain ⟨a, b, rfl, rfl, q1⟩ := q1
    cases r1; cases ru
    exact ⟨_, _, rfl, rfl, k'.nx _ _ _ _ (s1.set (.int _)) e1 q1⟩
  · cases hx
theorem snds_augS {a i : CE} {sb : Bool} {e : CE} : SndS CX G Φ n N (.augS a i sb e) := by
  refine snds1 _ rfl fun {E k X st} o hN hx => ?_
  split at hx
  · rename_i x y px op v pos
    simp only [Bool.and_eq_true] at hx
    obtain ⟨⟨⟨⟨h1, h2⟩, h3⟩, h4⟩, h5⟩ := hx
    obtain rfl := of_decide_eq_true h1
    have hu : X.A.units + 1 < cLine := by have := units_of o.room; omega
    refine PS.imp (ps_augS ((snd_all a).e o hN h3) ((snd_all i).e o hN h4) (pget hu) ((snd_all e).e o hN h5) ip_of (set_all hu) ?_) fun D σ H q => ?_
    · intro ov iv new
      cases y <;> first | rfl | exact Bool.noConfusion h2
    · obtain ⟨h, ρ, S, D', s', q, k'⟩ := q
      refine ⟨h, ρ, S, _, _, s', q, fun x S1 vx H1 s1 e1 r1 q1 => ⟨h, ρ, S1, _, _, s1, q1, fun y S2 vy H2 s2 e2 r2 q2 => ?_, (k'.xc _).to e1⟩, k'.xc _⟩
      refine get_int (C := (⟨X.K, E⟩ : Ct0).at h) s2 (r1.mono e2) r2 q2.1 q2.2 fun w S3 v H3 s3 e3 r3 q3 => ?_
      refine ⟨h, ρ, S3, _, _, s3, q3, fun z S4 vz H4 s4 e4 r4 q4 => ?_, (k'.xc _).to ((e1.trans e2).trans e3)⟩
      obtain ⟨m1, m2, rfl, rfl, q4⟩ := q4
      cases r3; cases r4
      refine ⟨_, _, rfl, rfl, ?_⟩
      exact sets (C := (⟨X.K, E⟩ : Ct0).at h) s4 (r1.mono ((e2.trans e3).trans e4)) (r2.mono (e3.trans e4)) (.int _) q4 fun S5 H5 s5 e5 q5 => k'.nx _ _ _ _ s5 ((((e1.trans e2).trans e3).trans e4).trans e5) q5
  · cases hx
theorem snds_expr {e : CE} : SndS CX G Φ n N (.expr e) := by
  refine snds1 _ rfl fun {E k X st} o hN hx => ?_
  split at hx
  · rename_i v pos
    simp only [Bool.and_eq_true] at hx
    obtain ⟨⟨h1, h2⟩, h3⟩ := hx
    refine PS.imp (ps_expr ((snd_all e).e o hN h3) ?_) fun D σ H q => ?_
    · cases v <;> first | rfl | exact Bool.noConfusion h1 | exact Bool.noConfusion h2
    · obtain ⟨h, ρ, S, D', s', q, k'⟩ := q
      exact ⟨h, ρ, S, _, _, s', q, fun w S1 v H1 s1 e1 r1 q1 => k'.nx _ _ _ _ s1 e1 q1, k'.xc _⟩
  · cases hx
theorem snds_ret {e : CE} : SndS CX G Φ n N (.ret e) := by
  refine snds1 _ rfl fun {E k X st} o hN hx => ?_
  split at hx
  · refine PS.imp (ps_ret ((snd_all e).e o hN hx)) fun D σ H q => ?_
    obtain ⟨h, ρ, S, D', s', q, k'⟩ := q
    exact ⟨h, ρ, S, _, _, s', q, fun w S1 v H1 s1 e1 r1 q1 => k'.rt _ _ _ _ s1.sto e1 r1 q1, k'.xc _⟩
  · cases hx
theorem snds_retN : SndS CX G Φ n N .retN := by
  refine snds1 _ rfl fun {E k X st} o hN hx => ?_
  split at hx
  · refine PS.imp ps_retN fun D σ H q => ?_
    obtain ⟨h, ρ, S, D', s', q, k'⟩ := q
    exact k'.rt _ _ _ _ s'.sto (Same.refl _) .non q
  · cases hx
theorem snds_iff {t : CE} {a b : CS} (h1 : SndS CX G Φ n N a) (h2 : SndS CX G Φ n N b) : SndS CX G Φ n N (.iff t a b) := by
  refine snds1 _ rfl fun {E k X st} o hN hx => ?_
  split at hx
  · simp only [Bool.and_eq_true] at hx
    refine PS.imp (ps_if ((snd_all t).t o hN hx.1.1) (h1.b o hN hx.1.2) (h2.b o hN hx.2)) fun D σ H q => ?_
    obtain ⟨h, ρ, S, D', s', q, k'⟩ := q
    refine ⟨h, ρ, S, _, _, s', q, fun r S1 H1 s1 e1 q1 => ?_, k'.xc _⟩
    cases r with
    | true =>
      rw [if_pos rfl] at q1
      exact iteT ⟨h, ρ, S1, D', s1, q1, k'.to e1⟩
    | false =>
      rw [if_neg Bool.false_ne_true] at q1
      exact iteF ⟨h, ρ, S1, D', s1, q1, k'.to e1⟩
  · cases hx
theorem snds_fr {t it : CE} {b : CS} (h : SndS CX G Φ n N b) : SndS CX G Φ n N (.fr t it b) := by
  refine snds1 _ rfl fun {E k X st} o hN hx => ?_
  split at hx
  · simp only [Bool.and_eq_true] at hx
    obtain ⟨⟨⟨h1, h2⟩, h3⟩, h4⟩ := hx
    exact PS.imp (ps_for o.own o.calm ((snd_all it).i o hN h2) ((snd_all t).g o hN h3) (h.b o hN h4) (fold_of h1)) fun D σ H q => imp_for q
  · cases hx
theorem snds_whl {t : CE} {b : CS} (h : SndS CX G Φ n N b) : SndS CX G Φ n N (.whl t b) := by
  refine snds1 _ rfl fun {E k X st} o hN hx => ?_
  split at hx
  · simp only [Bool.and_eq_true] at hx
    exact PS.imp (ps_while o.own ((snd_all t).t o hN hx.1) (h.b o hN hx.2)) fun D σ H q => imp_while q
  · cases hx
theorem snds_cont : SndS CX G Φ n N .cont := by
  refine snds1 _ rfl fun {E k X st} o hN hx => ?_
  split at hx
  · refine PS.imp ps_continue fun D σ H q => ?_
    obtain ⟨h, ρ, S, D', s', q, k'⟩ := q
    exact k'.ct _ _ _ _ s' (Same.refl _) q
  · cases hx
theorem snds_brk : SndS CX G Φ n N .brk := by
  refine snds1 _ rfl fun {E k X st} o hN hx => ?_
  split at hx
  · refine PS.imp ps_break fun D σ H q => ?_
    obtain ⟨h, ρ, S, D', s', q, k'⟩ := q
    exact k'.bk _ _ _ _ s' (Same.refl _) q
  · cases hx
theorem snds_pass : SndS CX G Φ n N .pass := by
  refine snds1 _ rfl fun {E k X st} o hN hx => ?_
  split at hx
  · refine PS.imp ps_pass fun D σ H q => ?_
    obtain ⟨h, ρ, S, D', s', q, k'⟩ := q
    exact k'.nx _ _ _ _ s' (Same.refl _) q
  · cases hx
theorem snds_never : SndS CX G Φ n N .never := by
  refine ⟨fun {E k X st} o hN hx => PS.imp ps_never fun D σ H q => ?_, fun {E k X sts} o hN hx => PSs.imp pss_never fun D σ H q => ?_⟩
  all_goals
    obtain ⟨h, ρ, S, D', s', q, k'⟩ := q
    exact q.elim
theorem snds_all : ∀ c : CS, SndS CX G Φ n N c := by
  intro c
  induction c with
  | nil => exact snds_nil
  | seq s r h1 h2 => exact snds_seq h1 h2
  | asg t e => exact snds_asg
  | par is es => exact snds_par
  | aug i sb e => exact snds_aug
  | augS o i sb e => exact snds_augS
  | expr e => exact snds_expr
  | ret e => exact snds_ret
  | retN => exact snds_retN
  | iff t a b h1 h2 => exact snds_iff h1 h2
  | fr t it b h => exact snds_fr h
  | whl t b h => exact snds_whl h
  | cont => exact snds_cont
  | pass => exact snds_pass
  | brk => exact snds_brk
  | gfrz i => exact snds_gh rfl (fun _ _ => rfl) (fun _ _ => rfl)
  | gfr2 i => exact snds_gh rfl (fun _ _ => rfl) (fun _ _ => rfl)
  | gdrop => exact snds_gh rfl (fun _ _ => rfl) (fun _ _ => rfl)
  | never => exact snds_never
end
end MP

set_option Elab.async false
set_option linter.all false
set_option maxRecDepth 100000
set_option maxHeartbeats 4000000
/-! MP13: defs by their cores; the module's context; the law's end. -/
namespace MP
open PySem PySem.Spec PyProof.Rows L2

def startW (N : List Str) (ws : List W) : Env := ws.map some ++ List.replicate (N.length - ws.length) none
theorem start_get : ∀ {ws : List W} {vs : List V} {K : KH} {F : Hp} {m i : Nat} {w : W}, RepL K F ws vs → (ws.map some ++ List.replicate m none)[i]? = some (some w) → ∃ v, (vs.map some ++ List.replicate m (none : Option V))[i]? = some (some v) ∧ Rep K F w v
  | [], _, K, F, m, i, w, .nil, h => by
    exfalso
    rw [List.map_nil, List.nil_append] at h
    by_cases hi : i < m
    · rw [List.getElem?_replicate_of_lt hi] at h; cases h
    · rw [List.getElem?_eq_none (by rw [List.length_replicate]; omega)] at h; cases h
  | w0 :: ws, _, K, F, m, 0, w, .cons r rs, h => by
    have e : w0 = w := by simpa using h
    subst e
    exact ⟨_, rfl, r⟩
  | w0 :: ws, _, K, F, m, i + 1, w, .cons r rs, h => start_get (ws := ws) (m := m) (i := i) rs h
theorem sim_start {K : KH} {S : Sto} {H : Hp} {N : List Str} {ws : List W} {vs : List V} (r : RepL K (fz S H) ws vs) (k : StoOk K S H) : Sim K (startW N ws) (L2.start N vs) S H := by
  refine ⟨fun i w h => ?_, ?_, k⟩
  · unfold startW at h
    unfold L2.start
    rw [← r.length]
    exact start_get r h
  · unfold startW L2.start
    rw [List.length_append, List.length_append, List.length_map, List.length_map, List.length_replicate, List.length_replicate, r.length]
/-- what a def's body is to reach: what it leaves beside is forgotten -/
def dNx (Q : WK) : Env → Sto → Prop := fun _ S' => ∃ S2, Fewer S2 S' ∧ Q .non S2
def dRt (Q : WK) : WK := fun w S' => ∃ S2, Fewer S2 S' ∧ Q w S2
def dNo : Env → Sto → Prop := fun _ _ => False
def dXc (X : XC) : XC := fun e S' => ∃ S2, Fewer S2 S' ∧ X e S2
def dEnds (Q : WK) (X : XC) : WEnds := ⟨dNx Q, dRt Q, dNo, dNo, dXc X⟩
theorem dXc_no {e : Exn} {S : Sto} (h : dXc XN e S) : False := by
  obtain ⟨_, _, z⟩ := h
  exact z
section
variable {P : Program} {w : World} {K : PySem.W.Frag} {mg : Str → Option Value} {base : Heap} {G : Gv} {Φ : Nat → Spec} {n : Nat}
/-- a def keeps its spec -/
theorem def_ok {x qual : Str} {st : Stmt} {f : Addr} {fd : FuncData} {N ps : List Str} {c : CS} (F : Fun K x qual st f fd) (Z : FnScope N ps (defScope st)) (g : GOk P w K mg base CX0 G Φ n)
    (hc : (cks G N n c).b ⟨defScope st, none⟩ (defBody st) = true) (hl : ∀ ws S Q X, Φ n ws S Q X → ws.length = ps.length)
    (h : ∀ ws S Q X, Φ n ws S Q X → wps Φ c (startW N ws) S (dEnds Q XN)) (hrp : G.rp = false := by rfl) : FnOk P w K mg base CX0 (n + 1) f fd ps (spOf K (Φ n)) := by
  refine F.ok Z (fun vs H Q E q => ?_) (fun cdv A outer s H vs Q E hr q => ?_)
  · obtain ⟨hh, ws, S, Qw, Xw, r, _, q, _⟩ := q
    rw [← r.length]
    exact hl _ _ _ _ q
  · obtain ⟨hh, ws, S, Qw, Xw, r, k, q, kv, _⟩ := q
    have o : XOk CX0 G Φ n (fun _ => E0) ⟨defScope st, none⟩ (cxOf CX0 P w K mg base N qual (defScope st) f cdv A outer s H E).nox :=
      ⟨g, rfl, Z.nd, hr, (fun z => by rw [hrp] at z; cases z), (fun z => by rw [hrp] at z; cases z), rfl, fun _ _ => rfl, fun _ _ _ _ _ _ _ z => z.elim, PassesOwn.never⟩
    refine ⟨_, (snds_all c).b o rfl hc, ?_⟩
    refine ⟨hh, startW N ws, S, dEnds Qw XN, sim_start r k, h _ _ _ _ q, ?_, ?_, ?_, ?_, ?_⟩
    · rintro ρ' S' σ' H' s1 e1 ⟨S2, f2, q2⟩
      exact kv _ _ _ _ (s1.sto.fewer f2) (e1.trans (same_fewer f2)) .non q2
    · rintro w' S' v H' k1 e1 r1 ⟨S2, f2, q2⟩
      exact kv _ _ _ _ (k1.fewer f2) (e1.trans (same_fewer f2)) (r1.mono (same_fewer f2)) q2
    · exact fun _ _ _ _ _ _ z => z.elim
    · exact fun _ _ _ _ _ _ z => z.elim
    · exact fun _ => fun x S2 H2 d k' e' r z => (dXc_no z).elim
/-- the defs so far, one more -/
theorem GOk.step {CX : CXT} (g : GOk P w K mg base CX G Φ n) {x : Str} {m : Nat} {f : Addr} {fd : FuncData} {ps : List Str} (hx : G.fns[n]? = some (x, m)) (hm : mg x = some (.ref f)) (hk : PySem.W.keepIn K (.ref f) = true) (hl : ps.length = m) (hb : Binds K fd ps [])
    (F : FnOk P w K mg base CX (n + 1) f fd ps (spOf K (Φ n))) : GOk P w K mg base CX G Φ (n + 1) where
  fns := fun i y l hy hi => by
    by_cases e : i = n
    · subst e
      rw [hx] at hy
      cases hy
      exact ⟨f, fd, ps, hm, hk, hl, hb, F⟩
    · exact g.fns i y l hy (by omega)
  blt := g.blt
  more := g.more
  glb := g.glb
  e0 := g.e0
theorem GOk.zero (hb : ∀ b : Blt, mg b.nm = none) (hm : mg "range" = none ∧ mg "zip" = none ∧ mg "enumerate" = none ∧ mg "isinstance" = none ∧ mg "set" = none ∧ mg "sorted" = none ∧ mg "dict" = none ∧ mg "reversed" = none ∧ mg "bool" = none) (hg : G.glb = []) :
    GOk P w K mg base CX0 G Φ 0 where
  fns := fun _ _ _ _ h => absurd h (Nat.not_lt_zero _)
  blt := hb
  more := hm
  glb := fun x c h => by rw [hg] at h; cases h
  e0 := fun _ _ _ _ _ _ _ _ _ _ z => z.elim
/-- a constant's value -/
def CstIs : Const → Value → Prop
  | .int i, u => ∃ t, u = Value.int i t
  | .str x, u => ∃ t, u = Value.str x t
  | _, _ => False
theorem GOk.zeroG (hb : ∀ b : Blt, mg b.nm = none) (hm : mg "range" = none ∧ mg "zip" = none ∧ mg "enumerate" = none ∧ mg "isinstance" = none ∧ mg "set" = none ∧ mg "sorted" = none ∧ mg "dict" = none ∧ mg "reversed" = none ∧ mg "bool" = none)
    (hg : ∀ x c, (x, c) ∈ G.glb → ∃ u, mg x = some u ∧ CstIs c u) : GOk P w K mg base CX0 G Φ 0 where
  fns := fun _ _ _ _ h => absurd h (Nat.not_lt_zero _)
  blt := hb
  more := hm
  glb := fun x c h => by
    obtain ⟨u, h1, h2⟩ := hg x c h
    cases c with
    | int i => exact ⟨u, .int i, .int i, rfl, h1, h2, fun _ _ => .int i⟩
    | str i => exact ⟨u, .str i, .str i, rfl, h1, h2, fun _ _ => .str i⟩
    | _ => exact h2.elim
  e0 := fun _ _ _ _ _ _ _ _ _ _ z => z.elim
end
/-- the law's own promise -/
def spLaw (ns : List Int) : Prop := ns.length ≤ 63
/-- nothing stands -/
def S00 : Sto := fun _ => none
theorem stoOk0 {K : PySem.W.Frag} {H : Hp} : StoOk ⟨K, fun _ => false⟩ S00 H := ⟨fun _ _ h => (by cases h), fun _ h => (by cases h)⟩
def lawSpec (n : Nat) : Spec := fun ws S Q _ => ∃ ns : List Int, ws = [.lst (ns.map W.int)] ∧ ns.length ≤ n ∧ S = S00 ∧ Q (.bl true) S00
theorem rep_ints {K : KH} {F : Hp} : ∀ ns : List Int, RepL K F (ns.map W.int) (ns.map V.int)
  | [] => .nil
  | n :: ns => .cons (.int n) (rep_ints ns)
theorem walk_ofM {l : PySem.W.OpenLaw} {n k : Nat} {q : Program} {loose : List Str} {XP : (Str → Option Value) → Heap → Prop} {YP : World → Heap → Prop} {d : DefRec} {K : Params → PySem.W.Frag} {x : Str} {sp : Spec}
    (hn : l.most = some n) (hn2 : n ≤ sizeLine) (hdf : d.params.defaults = []) (hr : Room k callerA) (hY : ∀ (w : World) (h : Heap), YP w h → (K w.params).In h) (hs : sp = lawSpec n)
    (F : ∀ (w : World) (mg : Str → Option Value) (fa : Addr) (h : Heap), (K w.params).In h → h.Ns mainGlobals mg → mg d.name = some (.ref fa) →
      ∃ fd : FuncData, (∀ (s : Shared) (u : Value), BindsTo s fd ⟨[u], []⟩ [(x, u)]) ∧ ∀ base : Heap, (K w.params).In base → base.Ns mainGlobals mg → FnOk l.prog w (K w.params) mg base CX0 k fa fd [x] (spOf (K w.params) sp)) :
    PySem.W.WalkO q loose XP YP l.row.toRowW d [] (fun f vs => PySem.call f vs) := by
  refine Att.attach_call hn hdf fun w' sA sB mg' mb' fa' ob' pm' cd' doc' ad' vs' ns' G' Y' ho' hd' hcd' hmg' hobj' hints' hlen' hgens' => ?_
  have KX' := hY w' _ Y'
  obtain ⟨fd', hb', hF'⟩ := F w' mg' fa' _ KX' G'.T.g hmg'
  refine law_call KX' G'.T.g G'.T.b G'.T.builtins G'.T.nolimit hgens' hobj' hints' (Nat.le_trans hlen' hn2) hr hF' hb' (fun H _ hS => ?_) fun _ _ _ z => z
  subst hs
  refine ⟨fun _ => false, [.lst (ns'.map W.int)], S00, fun y _ => y = .bl true, XN, .cons ?_ .nil, stoOk0, ⟨ns', rfl, hlen', rfl, rfl⟩, ?_, XCk.no⟩
  · rcases hS with hS | ⟨o', its', m', hk', hc', hdd', hda', hz', hv'⟩
    · exact .lst rfl hS (rep_ints ns')
    · have e := KX' _ _ hk'
      rw [hobj'] at e
      cases e
      cases hda'
      exact .klst ⟨_, _, hk', hz', hv'⟩ (rep_ints ns')
  · rintro y S' v H' _ _ r rfl
    cases r
    rfl
end MP

set_option Elab.async false
set_option linter.all false
set_option maxRecDepth 100000
set_option maxHeartbeats 4000000
/-! MG: the law's own call, of which it is known that nothing is being shown (no guards). -/
namespace MP
open PySem PySem.Spec PyProof.Rows L2

/-- a def's run where it is called, its body being read there -/
theorem fn_run {CX : CXT} {P : Program} {w : World} {K : PySem.W.Frag} {mg : Str → Option Value} {base : Heap} {k : Nat} {f : Addr} {nm qual : Str} {params : Arguments} {body : List Stmt} {sc : Scope} {dV kV doc pm cdv ct oc : Value} {an od : Option Addr}
    {osl : Array (Option Value)} {N ps : List Str} {A : Around} {outer : List PySem.Env} {s : Shared} {H : Hp} {args : Args} {us : List Value} {vs : List V} {Q : VK} {E : XK} {t : TS}
    (found : K.lookup f = some ⟨oc, od, .func (PySem.W.fnOf nm qual params body sc dV kV doc pm an cdv ct), osl⟩) (code : PySem.W.codeIn K cdv qual = true) (Z : FnScope N ps sc) (room : Room (k + 1) A) (e0 : Env0 P w K mg base A outer s H)
    (bind : BindsTo s (PySem.W.fnOf nm qual params body sc dV kV doc pm an cdv ct) args (ps.zip us)) (rv : Vals vs us) (hl : vs.length = ps.length)
    (read : PSs (cxOf CX P w K mg base N qual sc f cdv A outer s H E) body t) (asked : t { nx := fun _ H' => Q .non H', rt := Q } (start N vs) H) :
    codeAny (model P w) A (.call (.ref f) args) (CR CX outer P w H s Q E) s := by
  have inK : K.In s.heap := e0.mod.kin.keeps fun b o z => (e0.bs b o z).1
  have lim : s.heap.NoLimit := e0.mod.nolimit.keeps fun b o z => (e0.bs b o z).1
  have kinds : ∀ y ∈ ps.zip us, sc.names.lookup y.1 = some .local ∨ (sc.names.lookup y.1 = some .cell ∧ ((cellsFrom (s.heap.objs.size + 1) sc.names []).lookup y.1).isSome = true) := by
    rintro ⟨n, v⟩ hy
    rcases Z.par n (List.of_mem_zip hy).1 with c | c
    · exact .inl c
    · exact .inr ⟨c, PySem.W.cellsFrom_some _ _ _ (.inl c)⟩
  refine codeAny_call_function room.depth (inK _ _ found) rfl Z.co Z.gen rfl (PySem.W.codeRec_of inK code) (bind _ _ _ _ ?_)
  refine wpAny_newFunctionEnv_cells Z.kind kinds fun env he s1 x => ?_
  subst he
  refine ⟨lim.keeps x.toInCall.keep, codeAny_func ?_⟩
  have I := inv_start (CX := CX) (E := E) Z room.hd e0 hl rv x
  refine wpAny_mono (read.run [] s1 (start N vs) H _ I asked) (fun fl s' hs => ?_) fun _ _ z => z
  cases fl with
  | ret u =>
    obtain ⟨v, σ', H', J, r2, q⟩ := hs
    exact ⟨v, H', J.os, J.bare, J.base, J.hok, r2, q⟩
  | next =>
    obtain ⟨σ', H', J, q⟩ := hs
    exact ⟨V.non, H', J.os, J.bare, J.base, J.hok, rfl, q⟩
  | brk => obtain ⟨_, _, _, q⟩ := hs; exact q.elim
  | cont => obtain ⟨_, _, _, q⟩ := hs; exact q.elim
/-- the law's call, by its run there -/
theorem law_at {P : Program} {w : World} {K : PySem.W.Frag} {mg mb : Str → Option Value} {CX : CXT} {fa a : Addr} {s1 : Shared} {vs : List Value} {ns : List Int}
    (inK : K.In s1.heap) (main : s1.heap.Ns mainGlobals mg) (blt : s1.heap.Ns builtinsNs mb) (bltAll : ∀ x : Str, x ≠ "__name__" → mb x = bootBuiltins x) (lim : s1.heap.NoLimit) (noGens : s1.gens = #[])
    (there : s1.heap.get? a = some { cls := .type "list", data := .seq vs.toArray }) (isI : IntsAre vs ns) (short : ns.length ≤ sizeLine)
    (F : ∀ (base : Heap) (H : Hp), K.In base → base.Ns mainGlobals mg → Env0 P w K mg base callerA [] s1 H → Only H → SqL K H a (ns.map V.int) →
      codeAny (model P w) callerA (.call (.ref fa) ⟨[.ref a], []⟩) (CR CX [] P w H s1 (fun v _ => v = .bl true) fun _ _ _ => False) s1)
    (noX : ∀ H e s', CX [] H s1 (fun _ _ _ => False) e s' → False) :
    codeAny (model P w) callerA (.call (.ref fa) ⟨[.ref a], []⟩) (fun r s' => r = .ok (.ret (.bool true)) ∧ OldK s1.heap s'.heap ∧ s'.os = s1.os ∧ AllBare s'.gens) s1 := by
  have vals := vals_ints isI
  have vlen := isI.length
  have go : ∀ H : Hp, Only H → SqL K H a (ns.map V.int) → HOk P w H s1.heap → (∀ b, H b ≠ none → b = a) → (H a ≠ none → K.lookup a = none) →
      codeAny (model P w) callerA (.call (.ref fa) ⟨[.ref a], []⟩) (fun r s' => r = .ok (.ret (.bool true)) ∧ OldK s1.heap s'.heap ∧ s'.os = s1.os ∧ AllBare s'.gens) s1 := by
    intro H only sq ok alone notK
    have free : ∀ {b : Addr}, b ≠ a → H b = none := fun {b} ne => by
      cases z : H b with
      | none => rfl
      | some u => exact absurd (alone b (by rw [z]; simp)) ne
    have noDict : ∀ {b : Addr} {o : Obj} {es : Array DictEntry} {ep : Nat}, s1.heap.get? b = some o → o.data = .dict es ep → H b = none := fun {b o es ep} e d => by
      by_cases ne : b = a
      · subst ne
        rw [there] at e
        cases e
        have : Data.seq vs.toArray _ = Data.dict es ep := d
        cases this
      · exact free ne
    have nsB : ∀ {b : Addr} {m : Str → Option Value}, s1.heap.Ns b m → (hidT s1.heap H).Ns b m := fun {b m} ⟨o, es, ep, e, d, r⟩ => ⟨o, es, ep, hidT_get e (noDict e d), d, r⟩
    have inB : K.In (hidT s1.heap H) := fun b o e => by
      refine hidT_get (inK b o e) ?_
      by_cases ne : b = a
      · subst ne
        cases z : H b with
        | none => rfl
        | some u => rw [notK (by rw [z]; simp)] at e; cases e
      · exact free ne
    have mod : Mod K mg (hidT s1.heap H) := ⟨inB, nsB main, ⟨mb, nsB blt, bltAll⟩, let ⟨mc, m1, m2⟩ := lim; ⟨mc, nsB m1, m2⟩⟩
    have env : Env0 P w K mg (hidT s1.heap H) callerA [] s1 H := ⟨rfl, mod, fun b o z => of_hidT z, Nat.le_of_eq (hidT_size _ _), trivial, fun b hb => (by cases hb), ok, .of_eq noGens⟩
    refine codeAny_mono (F _ H inB (nsB main) env only sq) fun r s' back => ?_
    cases r with
    | error e => exact (noX H e s' back).elim
    | ok fl =>
      cases fl with
      | next => exact back.elim
      | brk => exact back.elim
      | cont => exact back.elim
      | ret u =>
        obtain ⟨v, H', os, bare, un, ok2, rel, hv⟩ := back
        have hv' : v = .bl true := hv
        subst hv'
        obtain rfl : u = Value.bool true := rel
        refine ⟨rfl, OldK.of_keep fun b o z => ?_, os, bare⟩
        by_cases hb : H b = none
        · exact un.keep b o z hb (fun y => by cases y) (fun y => by cases y)
        · rcases only b with y | ⟨ob, xs, y⟩
          · exact absurd y hb
          · obtain ⟨g1, _⟩ := ok b _ y
            obtain ⟨g2, _⟩ := ok2 b _ (un.frzs b ob _ y)
            rw [z] at g1
            cases g1
            exact g2
  cases hk : K.lookup a with
  | some o =>
    have z := inK a o hk
    rw [there] at z
    cases z
    exact go (fun _ => none) (fun _ => .inl rfl) (.inr ⟨_, vs.toArray, _, hk, rfl, rfl, rfl, by rw [List.size_toArray, vlen]; exact short, by simpa using vals⟩) (fun b u y => (by cases y)) (fun b y => absurd rfl y) fun y => absurd rfl y
  | none =>
    refine go (fun b => if b = a then some (.frz { cls := .type "list", data := .seq vs.toArray } (.lst (ns.map V.int))) else none) (fun b => ?_) (.inl (.inr ⟨{ cls := .type "list", data := .seq vs.toArray }, if_pos rfl⟩)) (fun b u y => ?_) (fun b y => ?_) fun _ => hk
    · by_cases hb : b = a
      · exact .inr ⟨_, _, if_pos hb⟩
      · exact .inl (if_neg hb)
    · by_cases hb : b = a
      · have y' := (if_pos hb).symm.trans y
        cases y'
        subst hb
        exact ⟨there, by rw [List.length_map]; exact short, vs, _, vals, there⟩
      · have y' := (if_neg hb).symm.trans y
        cases y'
    · by_cases hb : b = a
      · exact hb
      · exact absurd (if_neg hb) y
section
variable {P : Program} {w : World} {K : PySem.W.Frag} {mg : Str → Option Value} {base : Heap} {G : Gv} {Φ : Nat → Spec} {n : Nat}
/-- the law's def run where nothing is being shown -/
theorem def_runG {x qual : Str} {st : Stmt} {f : Addr} {fd : FuncData} {N ps : List Str} {c : CS} (F : Fun K x qual st f fd) (Z : FnScope N ps (defScope st)) (g : GOk P w K mg base CX0 G Φ n) (rep : mg "repr" = none)
    (hc : (cks G N n c).b ⟨defScope st, none⟩ (defBody st) = true) (hl : ∀ ws S Q X, Φ n ws S Q X → ws.length = ps.length) (h : ∀ ws S Q X, Φ n ws S Q X → wps Φ c (startW N ws) S (dEnds Q XN))
    {A : Around} {outer : List PySem.Env} {s : Shared} {H : Hp} {args : Args} {us : List Value} {vs : List V} {Q : VK} {E : XK} (quiet : A.guards = some []) (room : Room (n + 1) A) (e0 : Env0 P w K mg base A outer s H) (bind : BindsTo s fd args (ps.zip us)) (rv : Vals vs us) (q : spOf K (Φ n) vs H Q E) :
    codeAny (model P w) A (.call (.ref f) args) (CR CX0 outer P w H s Q E) s := by
  obtain ⟨oc, od, kV, doc, pm, an, cdv, ct, osl, rfl, lk, hcd⟩ := F.ex
  obtain ⟨hh, ws, S, Qw, Xw, r, k, q, kv, _⟩ := q
  have o : XOk CX0 G Φ n (fun _ => E0) ⟨defScope st, none⟩ (cxOf CX0 P w K mg base N qual (defScope st) f cdv A outer s H E).nox :=
    ⟨g, rfl, Z.nd, room.deeper _, fun _ => quiet, fun _ => rep, rfl, fun _ _ => rfl, fun _ _ _ _ _ _ _ z => z.elim, PassesOwn.never⟩
  refine fn_run lk hcd Z room e0 bind rv (by rw [← r.length]; exact hl _ _ _ _ q) (((snds_all c).b o rfl hc).nox) ?_
  refine ⟨hh, startW N ws, S, dEnds Qw XN, sim_start r k, h _ _ _ _ q, ?_, ?_, ?_, ?_, ?_⟩
  · rintro ρ' S' σ' H' s1 e1 ⟨S2, f2, q2⟩
    exact kv _ _ _ _ (s1.sto.fewer f2) (e1.trans (same_fewer f2)) .non q2
  · rintro w' S' v H' k1 e1 r1 ⟨S2, f2, q2⟩
    exact kv _ _ _ _ (k1.fewer f2) (e1.trans (same_fewer f2)) (r1.mono (same_fewer f2)) q2
  · exact fun _ _ _ _ _ _ z => z.elim
  · exact fun _ _ _ _ _ _ z => z.elim
  · exact fun _ => fun x S2 H2 d k' e' r z => (dXc_no z).elim
end
/-- what the law's def has to keep, at its call -/
def RunsG (l : PySem.W.OpenLaw) (w : World) (K : PySem.W.Frag) (mg : Str → Option Value) (x : Str) (fa : Addr) (sp : Spec) : Prop :=
  ∀ (base : Heap) (s : Shared) (H : Hp) (u : Value) (v : V) (Q : VK) (E : XK), K.In base → base.Ns mainGlobals mg → Env0 l.prog w K mg base callerA [] s H → RelV v u → spOf K sp [v] H Q E → codeAny (model l.prog w) callerA (.call (.ref fa) ⟨[u], []⟩) (CR CX0 [] l.prog w H s Q E) s
theorem walk_ofG {l : PySem.W.OpenLaw} {n : Nat} {q : Program} {loose : List Str} {XP : (Str → Option Value) → Heap → Prop} {YP : World → Heap → Prop} {d : DefRec} {K : Params → PySem.W.Frag} {x : Str} {sp : Spec}
    (hn : l.most = some n) (hn2 : n ≤ sizeLine) (hdf : d.params.defaults = []) (hY : ∀ (w : World) (h : Heap), YP w h → (K w.params).In h) (hs : sp = lawSpec n)
    (F : ∀ (w : World) (mg : Str → Option Value) (fa : Addr) (h : Heap), (K w.params).In h → h.Ns mainGlobals mg → mg d.name = some (.ref fa) → RunsG l w (K w.params) mg x fa sp) :
    PySem.W.WalkO q loose XP YP l.row.toRowW d [] (fun f vs => PySem.call f vs) := by
  refine Att.attach_call hn hdf fun w sA s1 mg mb fa ob pm cd doc a vs ns G Y ho hd hcd hmg hobj hints hlen hgens => ?_
  have inK := hY w _ Y
  refine law_at (CX := CX0) inK G.T.g G.T.b G.T.builtins G.T.nolimit hgens hobj hints (Nat.le_trans hlen hn2) (fun base H b1 b2 env _ sq => ?_) fun _ _ _ z => z
  refine F w mg fa _ inK G.T.g hmg base s1 H (.ref a) (.ref a) _ _ b1 b2 env rfl ?_
  subst hs
  refine ⟨fun _ => false, [.lst (ns.map W.int)], S00, fun y _ => y = .bl true, XN, .cons ?_ .nil, stoOk0, ⟨ns, rfl, hlen, rfl, rfl⟩, ?_, XCk.no⟩
  · rcases sq with z | ⟨o, its, m, hk, hc, hdd, hda, hz, hv⟩
    · exact .lst rfl z (rep_ints ns)
    · have e := inK _ _ hk
      rw [hobj] at e
      cases e
      cases hda
      exact .klst ⟨_, _, hk, hz, hv⟩ (rep_ints ns)
  · rintro y S' v H' _ _ r rfl
    cases r
    rfl
end MP

set_option Elab.async false
set_option linter.all false
set_option maxRecDepth 100000
set_option maxHeartbeats 4000000
/-! MP14: short steps through a core's demand. -/
namespace MP
open PySem PySem.Spec PyProof.Rows L2

section
variable {Φ : Nat → Spec} {ρ : Env} {S : Sto} {D : WEnds} {Q : WK} {X : XC} {a b c e t it : CE} {s r : CS} {live : Bool}
/-! ### statements -/
section
variable {nx bk ct : Env → Sto → Prop} {rt : WK} {xc : XC}
theorem s_nil (h : nx ρ S) : wps Φ .nil ρ S ⟨nx, rt, bk, ct, xc⟩ := h
theorem s_seq (h : wps Φ s ρ S ⟨fun ρ1 S1 => wps Φ r ρ1 S1 ⟨nx, rt, bk, ct, xc⟩, rt, bk, ct, xc⟩) : wps Φ (.seq s r) ρ S ⟨nx, rt, bk, ct, xc⟩ := h
theorem s_asg (h : (wp Φ e).e ρ S (fun w S1 => (wp Φ t).g w ρ S1 nx) xc) : wps Φ (.asg t e) ρ S ⟨nx, rt, bk, ct, xc⟩ := h
theorem s_par {is : List Nat} (h : (wp Φ e).es ρ S (fun ws S1 => ws.length = is.length ∧ nx (setAll ρ is ws) S1) xc) : wps Φ (.par is e) ρ S ⟨nx, rt, bk, ct, xc⟩ := h
theorem s_aug' {i : Nat} {sb : Bool} {x : W} (h0 : ρ[i]? = some (some x)) (h : (wp Φ e).e ρ S (fun y S1 => ∃ a b, x = .int a ∧ y = .int b ∧ nx (ρ.set i (some (.int (augI sb a b)))) S1) xc) : wps Φ (.aug i sb e) ρ S ⟨nx, rt, bk, ct, xc⟩ := ⟨x, h0, h⟩
theorem s_augS {sb : Bool} (h : (wp Φ a).e ρ S (fun x S1 => (wp Φ b).e ρ S1 (fun k S2 => (∃ a, x = .ref a) ∧ idxW x k S2 fun v S3 => (wp Φ e).e ρ S3 (fun y S4 =>
      ∃ a b, v = .int a ∧ y = .int b ∧ setW x k (.int (augI sb a b)) S4 fun S6 => nx ρ S6) xc) xc) xc) : wps Φ (.augS a b sb e) ρ S ⟨nx, rt, bk, ct, xc⟩ := h
theorem s_expr (h : (wp Φ e).e ρ S (fun _ S1 => nx ρ S1) xc) : wps Φ (.expr e) ρ S ⟨nx, rt, bk, ct, xc⟩ := h
theorem s_ret (h : (wp Φ e).e ρ S rt xc) : wps Φ (.ret e) ρ S ⟨nx, rt, bk, ct, xc⟩ := h
theorem s_retN (h : rt .non S) : wps Φ .retN ρ S ⟨nx, rt, bk, ct, xc⟩ := h
theorem s_iff (h : (wp Φ t).t ρ S (fun q S1 => if q = true then wps Φ s ρ S1 ⟨nx, rt, bk, ct, xc⟩ else wps Φ r ρ S1 ⟨nx, rt, bk, ct, xc⟩) xc) : wps Φ (.iff t s r) ρ S ⟨nx, rt, bk, ct, xc⟩ := h
theorem s_fr (h : (wp Φ it).i ρ S (fun src items S1 => wpFor src (wp Φ t).g (wps Φ s) items ρ S1 ⟨nx, rt, bk, ct, xc⟩) xc) : wps Φ (.fr t it s) ρ S ⟨nx, rt, bk, ct, xc⟩ := h
theorem s_cont (h : ct ρ S) : wps Φ .cont ρ S ⟨nx, rt, bk, ct, xc⟩ := h
theorem s_brk (h : bk ρ S) : wps Φ .brk ρ S ⟨nx, rt, bk, ct, xc⟩ := h
theorem s_pass (h : nx ρ S) : wps Φ .pass ρ S ⟨nx, rt, bk, ct, xc⟩ := h
theorem s_gfrz {i : Nat} {p : Addr} {ws : List W} (h0 : ρ[i]? = some (some (.ref p))) (h1 : S p = some (.lst ws)) (h : nx (ρ.set i (some (.lst ws))) (sdel S p)) : wps Φ (.gfrz i) ρ S ⟨nx, rt, bk, ct, xc⟩ := ⟨p, ws, h0, h1, h⟩
theorem s_whl (I : Nat → Env → Sto → Prop) (m : Nat) (h0 : I m ρ S) (h : ∀ m ρ S, I m ρ S → (wp Φ t).t ρ S (fun q S1 =>
      if q = true then wps Φ s ρ S1 ⟨fun ρ2 S2 => ∃ m', m' < m ∧ I m' ρ2 S2, rt, nx, fun ρ2 S2 => ∃ m', m' < m ∧ I m' ρ2 S2, xc⟩ else nx ρ S1) xc) : wps Φ (.whl t s) ρ S ⟨nx, rt, bk, ct, xc⟩ := ⟨I, ⟨m, h0⟩, h⟩
theorem s_drop {S' : Sto} (f : Fewer S' S) (h : nx ρ S') : wps Φ .gdrop ρ S ⟨nx, rt, bk, ct, xc⟩ := ⟨S', f, h⟩
end
/-- the end of a def -/
theorem d_in (h : wps Φ s ρ S ⟨dNx Q, dRt Q, dNo, dNo, dXc X⟩) : wps Φ s ρ S (dEnds Q X) := h
theorem fewer_rfl {S : Sto} : Fewer S S := fun _ _ h => h
theorem d_ret {w : W} {S0 : Sto} (f : Fewer S0 S) (h : Q w S0) : dRt Q w S := ⟨S0, f, h⟩
theorem d_same {w : W} (h : Q w S) : dRt Q w S := ⟨S, fewer_rfl, h⟩
theorem d_nx {S0 : Sto} (f : Fewer S0 S) (h : Q .non S0) : dNx Q ρ S := ⟨S0, f, h⟩
theorem d_end (h : Q .non S) : dNx Q ρ S := ⟨S, fewer_rfl, h⟩

/-! ### expressions -/
theorem e_var {i : Nat} {w : W} (h : ρ[i]? = some (some w)) (q : Q w S) : (wp Φ (.var i)).e ρ S Q X := ⟨w, h, q⟩
theorem e_int {i : Int} (q : Q (.int i) S) : (wp Φ (.cst (.int i))).e ρ S Q X := ⟨_, rfl, q⟩
theorem e_str {x : Str} (q : Q (.str x) S) : (wp Φ (.cst (.str x))).e ρ S Q X := ⟨_, rfl, q⟩
theorem e_bool {x : Bool} (q : Q (.bl x) S) : (wp Φ (.cst (.bool x))).e ρ S Q X := ⟨_, rfl, q⟩
theorem e_none (q : Q .non S) : (wp Φ (.cst .none)).e ρ S Q X := ⟨_, rfl, q⟩
theorem e_bin {op : Bop} (h : (wp Φ a).e ρ S (fun x S1 => (wp Φ b).e ρ S1 (fun y S2 => bopW live op x y S2 Q) X) X) : (wp Φ (.bin live op a b)).e ρ S Q X := h
theorem e_neg (h : (wp Φ a).e ρ S (fun x S1 => ∃ i, x = .int i ∧ Q (.int (-i)) S1) X) : (wp Φ (.neg a)).e ρ S Q X := h
theorem e_nt (h : (wp Φ a).e ρ S (fun x S1 => ∃ b, truW S1 x = some b ∧ Q (.bl !b) S1) X) : (wp Φ (.nt a)).e ρ S Q X := h
theorem e_cmp {op : CmpOp} (h : (wp Φ a).e ρ S (fun x S1 => (wp Φ b).e ρ S1 (fun y S2 => cmpW op x y S2 fun r => Q (.bl r) S2) X) X) : (wp Φ (.cmp op a b)).e ρ S Q X := h
theorem e_chain {o1 o2 : CmpOp} (h : (wp Φ a).e ρ S (fun x S1 => (wp Φ b).e ρ S1 (fun y S2 => cmpW o1 x y S2 fun r =>
        if r = true then (wp Φ c).e ρ S2 (fun z S3 => cmpW o2 y z S3 fun r2 => Q (.bl r2) S3) X else Q (.bl false) S2) X) X) : (wp Φ (.chain o1 o2 a b c)).e ρ S Q X := h
theorem e_an (h : (wp Φ a).an ρ S Q X) : (wp Φ (.an a)).e ρ S Q X := h
theorem e_or (h : (wp Φ a).or ρ S Q X) : (wp Φ (.or a)).e ρ S Q X := h
theorem an_1 (h : (wp Φ a).e ρ S Q X) : (wp Φ (.cons a .nil)).an ρ S Q X := h
theorem an_2 (h : (wp Φ a).e ρ S (fun x S1 => ∃ b', truW S1 x = some b' ∧ if b' = true then (wp Φ (.cons b c)).an ρ S1 Q X else Q x S1) X) : (wp Φ (.cons a (.cons b c))).an ρ S Q X := h
theorem or_1 (h : (wp Φ a).e ρ S Q X) : (wp Φ (.cons a .nil)).or ρ S Q X := h
theorem or_2 (h : (wp Φ a).e ρ S (fun x S1 => ∃ b', truW S1 x = some b' ∧ if b' = true then Q x S1 else (wp Φ (.cons b c)).or ρ S1 Q X) X) : (wp Φ (.cons a (.cons b c))).or ρ S Q X := h
theorem e_ife (h : (wp Φ t).t ρ S (fun r S1 => if r = true then (wp Φ a).e ρ S1 Q X else (wp Φ b).e ρ S1 Q X) X) : (wp Φ (.ife t a b)).e ρ S Q X := h
theorem e_call {f : Nat} (h : (wp Φ a).es ρ S (fun ws S1 => Φ f ws S1 Q X) X) : (wp Φ (.call f a)).e ρ S Q X := h
theorem e_blt {o : Blt} (h : (wp Φ a).es ρ S (fun ws S1 => bltW live o ws S1 Q) X) : (wp Φ (.blt o live a)).e ρ S Q X := h
theorem e_mth {m : Mth} (h : (wp Φ a).e ρ S (fun x S1 => rcvW m x S1 ∧ (wp Φ b).es ρ S1 (fun ws S2 => mthW m x ws S2 Q) X) X) : (wp Φ (.mth m a b)).e ρ S Q X := h
theorem e_idx (h : (wp Φ a).e ρ S (fun x S1 => (wp Φ b).e ρ S1 (fun y S2 => idxW x y S2 Q) X) X) : (wp Φ (.idx a b)).e ρ S Q X := h
theorem e_slc {lo hi : CE} (h : (wp Φ a).e ρ S (fun x S1 => (wp Φ lo).o ρ S1 (fun l S2 => (wp Φ hi).o ρ S2 (fun u S3 => slcW live x l u S3 Q) X) X) X) : (wp Φ (.slc live a lo hi)).e ρ S Q X := h
theorem e_rev (h : (wp Φ a).e ρ S (fun x S1 => ∃ ws, rdL S1 x = some ws ∧ mkL live ws.reverse S1 Q) X) : (wp Φ (.rev live a)).e ρ S Q X := h
theorem e_tup (h : (wp Φ a).es ρ S (fun ws S1 => ws.length ≤ sizeLine ∧ Q (.tup ws) S1) X) : (wp Φ (.tup a)).e ρ S Q X := h
theorem e_lst (h : (wp Φ a).es ρ S (fun ws S1 => ws.length ≤ sizeLine ∧ mkL live ws S1 Q) X) : (wp Φ (.lst live a)).e ρ S Q X := h
theorem e_dnew {tk : Bool} (h : ∀ p, S p = none → Q (.ref p) (sup S p (if tk = true then .dt [] else .dk []))) : (wp Φ (.dnew tk)).e ρ S Q X := h
theorem e_dct (h : (wp Φ a).es ρ S (fun ws S1 => ∃ kvs, putsK [] ws = some kvs ∧ ws.length ≤ 30 ∧ ∀ p, S1 p = none → Q (.ref p) (sup S1 p (.dk kvs))) X) : (wp Φ (.dct a)).e ρ S Q X := h
theorem e_lc {own : List (Str × Nat)} (h : (wp Φ it).i ρ S (fun src items S1 =>
      wpLc src (wp Φ t).g (wp Φ c).c (fun ρ1 S2 Q1 => (wp Φ e).e ρ1 S2 Q1 XN) (wipeW ρ (own.map (·.2))) items [] S1 fun ws S2 => mkL live ws S2 Q) X) : (wp Φ (.lc live own t it c e)).e ρ S Q X := h
theorem e_lrg (h : (wp Φ a).e ρ S (fun x S1 => ∃ j, x = .int j ∧ 0 ≤ j ∧ j ≤ 16777216 ∧ mkL live (rngW 0 j.toNat) S1 Q) X) : (wp Φ (.lrg live a)).e ρ S Q X := h
theorem e_isi {k : Knd} (h : (wp Φ a).e ρ S (fun x S1 => ∃ k', kndW S1 x = some k' ∧ Q (.bl (subK k' k)) S1) X) : (wp Φ (.isi a k)).e ρ S Q X := h
section
variable {Q : List W → Sto → Prop}
theorem es_n (h : Q [] S) : (wp Φ .nil).es ρ S Q X := h
theorem es_c (h : (wp Φ a).e ρ S (fun w S1 => (wp Φ b).es ρ S1 (fun ws S2 => Q (w :: ws) S2) X) X) : (wp Φ (.cons a b)).es ρ S Q X := h
end
section
variable {Q : Option Int → Sto → Prop}
theorem o_nil (h : Q none S) : (wp Φ .nil).o ρ S Q X := h
theorem o_var {i : Nat} (h : (wp Φ (.var i)).e ρ S (intK Q) X) : (wp Φ (.var i)).o ρ S Q X := h
theorem o_cst {k : Const} (h : (wp Φ (.cst k)).e ρ S (intK Q) X) : (wp Φ (.cst k)).o ρ S Q X := h
theorem o_bin {op : Bop} (h : (wp Φ (.bin live op a b)).e ρ S (intK Q) X) : (wp Φ (.bin live op a b)).o ρ S Q X := h
theorem o_neg (h : (wp Φ (.neg a)).e ρ S (intK Q) X) : (wp Φ (.neg a)).o ρ S Q X := h
theorem o_blt {o : Blt} (h : (wp Φ (.blt o live a)).e ρ S (intK Q) X) : (wp Φ (.blt o live a)).o ρ S Q X := h
theorem o_call {f : Nat} (h : (wp Φ (.call f a)).e ρ S (intK Q) X) : (wp Φ (.call f a)).o ρ S Q X := h
theorem ik {i : Int} (h : Q (some i) S) : intK Q (.int i) S := ⟨i, rfl, h⟩
end
/-! ### tests -/
section
variable {Q : Bool → Sto → Prop}
theorem t_var {i : Nat} (h : (wp Φ (.var i)).e ρ S (truK Q) X) : (wp Φ (.var i)).t ρ S Q X := h
theorem t_call {f : Nat} (h : (wp Φ (.call f a)).e ρ S (truK Q) X) : (wp Φ (.call f a)).t ρ S Q X := h
theorem t_blt {o : Blt} (h : (wp Φ (.blt o live a)).e ρ S (truK Q) X) : (wp Φ (.blt o live a)).t ρ S Q X := h
theorem t_mth {m : Mth} (h : (wp Φ (.mth m a b)).e ρ S (truK Q) X) : (wp Φ (.mth m a b)).t ρ S Q X := h
theorem t_idx (h : (wp Φ (.idx a b)).e ρ S (truK Q) X) : (wp Φ (.idx a b)).t ρ S Q X := h
theorem t_isi {k : Knd} (h : (wp Φ (.isi a k)).e ρ S (truK Q) X) : (wp Φ (.isi a k)).t ρ S Q X := h
theorem t_cst {k : Const} (h : (wp Φ (.cst k)).e ρ S (truK Q) X) : (wp Φ (.cst k)).t ρ S Q X := h
theorem t_nt (h : (wp Φ a).t ρ S (fun b S1 => Q (!b) S1) X) : (wp Φ (.nt a)).t ρ S Q X := h
theorem t_cmp {op : CmpOp} (h : (wp Φ a).e ρ S (fun x S1 => (wp Φ b).e ρ S1 (fun y S2 => cmpW op x y S2 fun r => Q r S2) X) X) : (wp Φ (.cmp op a b)).t ρ S Q X := h
theorem t_chain {o1 o2 : CmpOp} (h : (wp Φ a).e ρ S (fun x S1 => (wp Φ b).e ρ S1 (fun y S2 => cmpW o1 x y S2 fun r =>
        if r = true then (wp Φ c).e ρ S2 (fun z S3 => cmpW o2 y z S3 fun r2 => Q r2 S3) X else Q false S2) X) X) : (wp Φ (.chain o1 o2 a b c)).t ρ S Q X := h
theorem t_an (h : (wp Φ a).ant ρ S Q X) : (wp Φ (.an a)).t ρ S Q X := h
theorem t_or (h : (wp Φ a).ort ρ S Q X) : (wp Φ (.or a)).t ρ S Q X := h
theorem ant_1 (h : (wp Φ a).t ρ S Q X) : (wp Φ (.cons a .nil)).ant ρ S Q X := h
theorem ant_2 (h : (wp Φ a).t ρ S (fun b' S1 => if b' = true then (wp Φ (.cons b c)).ant ρ S1 Q X else Q false S1) X) : (wp Φ (.cons a (.cons b c))).ant ρ S Q X := h
theorem ort_1 (h : (wp Φ a).t ρ S Q X) : (wp Φ (.cons a .nil)).ort ρ S Q X := h
theorem ort_2 (h : (wp Φ a).t ρ S (fun b' S1 => if b' = true then Q true S1 else (wp Φ (.cons b c)).ort ρ S1 Q X) X) : (wp Φ (.cons a (.cons b c))).ort ρ S Q X := h
theorem tr_bl {x : Bool} (h : Q x S) : truK Q (.bl x) S := ⟨x, rfl, h⟩
theorem tr_int {x : Int} (h : Q (x != 0) S) : truK Q (.int x) S := ⟨_, rfl, h⟩
theorem tr_lst {x : List W} (h : Q (!x.isEmpty) S) : truK Q (.lst x) S := ⟨_, rfl, h⟩
theorem tr_non (h : Q false S) : truK Q .non S := ⟨_, rfl, h⟩
theorem c_nil (h : Q true S) : (wp Φ .nil).c ρ S Q := h
theorem c_one (h : (wp Φ a).t ρ S Q XN) : (wp Φ (.cons a .nil)).c ρ S Q := h
end
/-! ### targets, walks -/
section
variable {Q : Env → Sto → Prop}
theorem g_tnm {i : Nat} {w : W} (h : Q (ρ.set i (some w)) S) : (wp Φ (.tnm i)).g w ρ S Q := h
theorem g_tup {ws : List W} (hl : ws.length = cntC t) (h : (wp Φ t).gs ws ρ S Q) : (wp Φ (.ttup t)).g (.tup ws) ρ S Q := ⟨ws, rfl, hl, h⟩
theorem g_sub {w : W} (h : (wp Φ a).e ρ S (fun x S1 => (wp Φ b).e ρ S1 (fun k S2 => setW x k w S2 fun S3 => Q ρ S3) XN) XN) : (wp Φ (.tsub a b)).g w ρ S Q := h
theorem gs_n (h : Q ρ S) : (wp Φ .nil).gs [] ρ S Q := ⟨rfl, h⟩
theorem gs_c {w : W} {ws : List W} (h : (wp Φ a).g w ρ S fun ρ1 S1 => (wp Φ b).gs ws ρ1 S1 Q) : (wp Φ (.cons a b)).gs (w :: ws) ρ S Q := ⟨w, ws, rfl, h⟩
end
section
variable {Q : (Sto → Prop) → List W → Sto → Prop}
theorem i_seq (h : (wp Φ a).e ρ S (fun x S1 => ∃ ws, rdI S1 x = some ws ∧ Q (srcW x ws) ws S1) X) : (wp Φ (.iseq a)).i ρ S Q X := h
theorem i_rng1 (h : (wp Φ a).e ρ S (fun x S1 => irngW [x] S1 Q) X) : (wp Φ (.irng1 a)).i ρ S Q X := h
theorem i_rng2 (h : (wp Φ a).e ρ S (fun x S1 => (wp Φ b).e ρ S1 (fun y S2 => irngW [x, y] S2 Q) X) X) : (wp Φ (.irng2 a b)).i ρ S Q X := h
theorem i_rng3 (h : (wp Φ a).e ρ S (fun x S1 => (wp Φ b).e ρ S1 (fun y S2 => (wp Φ c).e ρ S2 (fun z S3 => irng3W [x, y, z] S3 Q) X) X) X) : (wp Φ (.irng3 a b c)).i ρ S Q X := h
theorem i_zip (h : (wp Φ a).e ρ S (fun x S1 => (wp Φ b).e ρ S1 (fun y S2 => ∃ xs ys, rdL S2 x = some xs ∧ rdL S2 y = some ys ∧
        Q (fun S => rdL S x = some xs ∧ rdL S y = some ys) (zipW xs ys) S2) X) X) : (wp Φ (.izip a b)).i ρ S Q X := h
theorem i_enm (h : (wp Φ a).e ρ S (fun x S1 => ∃ xs, rdL S1 x = some xs ∧ Q (fun S => rdL S x = some xs) (enmW 0 xs) S1) X) : (wp Φ (.ienm a)).i ρ S Q X := h
theorem rg1 {n : Int} (h1 : -(2 ^ 62) ≤ n ∧ n < 2 ^ 62) (h : Q (fun _ => True) (rngW 0 n.toNat) S) : irngW [.int n] S Q := ⟨h1.1, h1.2, h⟩
theorem rg3 {i j k : Int} {n : Nat} (h1 : RgC i j k n) (h : Q (fun _ => True) ((List.range n).map fun (m : Nat) => W.int (i + m * k)) S) : irng3W [.int i, .int j, .int k] S Q := ⟨n, h1, h⟩
theorem rg2 {n m : Int} (h1 : -(2 ^ 62) ≤ n ∧ n < 2 ^ 62 ∧ -(2 ^ 62) ≤ m ∧ m < 2 ^ 62) (h : Q (fun _ => True) (rngW n (m - n).toNat) S) : irngW [.int n, .int m] S Q := ⟨h1, h⟩
end
/-! ### values -/
section
variable {i j : Int} {xs ys : List W}
theorem b_add (h : Q (.int (i + j)) S) : bopW live .add (.int i) (.int j) S Q := h
theorem b_sub (h : Q (.int (i - j)) S) : bopW live .sub (.int i) (.int j) S Q := h
theorem b_mul (h0 : CMulW i j) (h : Q (.int (i * j)) S) : bopW live .mul (.int i) (.int j) S Q := ⟨h0, h⟩
theorem b_div (h0 : CDivW i j) (h : Q (.int (i / j)) S) : bopW live .fdiv (.int i) (.int j) S Q := ⟨h0, h⟩
theorem b_mod (h0 : 0 < j) (h : Q (.int (i % j)) S) : bopW live .mod (.int i) (.int j) S Q := ⟨h0, h⟩
theorem b_pow (h0 : CPow i j) (h : Q (.int (i ^ j.toNat)) S) : bopW live .pow (.int i) (.int j) S Q := ⟨h0, h⟩
theorem b_cat {x y : W} (hx : rdL S x = some xs) (hy : rdL S y = some ys) (hl : xs.length + ys.length ≤ sizeLine) (h : mkL live (xs ++ ys) S Q) : bopW live .add x y S Q := by
  cases x <;> first | (cases hx; done) | (cases y <;> first | (cases hy; done) | exact ⟨xs, ys, hx, hy, hl, h⟩)
theorem b_rep {x : W} {k : Int} (hx : rdL S x = some xs) (hk : -(2 ^ 63) ≤ k ∧ k < 2 ^ 63) (hl : xs.length * k.toNat ≤ sizeLine) (h : mkL live (List.replicate k.toNat xs).flatten S Q) : bopW live .mul x (.int k) S Q := by
  cases x <;> first | (cases hx; done) | exact ⟨xs, hx, hk.1, hk.2, hl, h⟩
theorem c_lt {Q : Bool → Prop} (h : Q (decide (i < j))) : cmpW .Lt (.int i) (.int j) S Q := h
theorem c_le {Q : Bool → Prop} (h : Q (decide (i ≤ j))) : cmpW .LtE (.int i) (.int j) S Q := h
theorem c_gt {Q : Bool → Prop} (h : Q (decide (j < i))) : cmpW .Gt (.int i) (.int j) S Q := h
theorem c_ge {Q : Bool → Prop} (h : Q (decide (j ≤ i))) : cmpW .GtE (.int i) (.int j) S Q := h
end
theorem mk_f {ws : List W} (h : Q (.lst ws) S) : mkL false ws S Q := by
  unfold mkL
  rw [if_neg Bool.false_ne_true]
  exact h
theorem mk_t {ws : List W} (h : ∀ p, S p = none → Q (.ref p) (sup S p (.lst ws))) : mkL true ws S Q := by
  unfold mkL
  rw [if_pos rfl]
  exact h
end
theorem ite_d {p : Prop} [Decidable p] {A B : Prop} (h1 : p → A) (h2 : ¬p → B) : if decide p = true then A else B := by
  by_cases h : p
  · rw [if_pos (decide_eq_true h)]; exact h1 h
  · rw [if_neg (by simpa using h)]; exact h2 h
theorem ite_b {p : Bool} {A B : Prop} (h1 : p = true → A) (h2 : p = false → B) : if p = true then A else B := by
  cases p with
  | true => exact iteT (h1 rfl)
  | false => exact iteF (h2 rfl)
end MP

set_option Elab.async false
set_option linter.all false
set_option maxRecDepth 100000
set_option maxHeartbeats 4000000
/-! MP15: steps by value. -/
namespace MP
open PySem PySem.Spec PyProof.Rows L2

section
variable {S : Sto} {Q : WK} {live : Bool} {a : Addr} {ws xs : List W} {i : Int} {w v : W} {x y : W}
theorem ix_c (h : S a = some (.lst ws)) (hw : atI ws i = some w) (q : Q w S) : idxW (.ref a) (.int i) S Q := .inl ⟨ws, i, w, by rw [h]; rfl, rfl, hw, q⟩
theorem ix_l (hw : atI ws i = some w) (q : Q w S) : idxW (.lst ws) (.int i) S Q := ⟨w, hw, q⟩
theorem ix_t (hw : atI ws i = some w) (q : Q w S) : idxW (.tup ws) (.int i) S Q := ⟨w, hw, q⟩
theorem ix_d {kvs : List (Key × W)} {k : Key} (h : S a = some (.dk kvs)) (hk : keyW x = some k) (hw : getK kvs k = some w) (q : Q w S) : idxW (.ref a) x S Q :=
  .inr ⟨w, by show (S a).bind _ = _; rw [h]; show (keyW x).map _ = _; rw [hk]; show some (getK kvs k) = _; rw [hw], q⟩
theorem st_l {j : Nat} {Q : Sto → Prop} (h : S a = some (.lst ws)) (hj : ixN ws.length i = some j) (q : Q (sup S a (.lst (ws.set j v)))) : setW (.ref a) (.int i) v S Q := ⟨a, rfl, .inl ⟨ws, i, j, h, rfl, hj, q⟩⟩
theorem st_d {kvs : List (Key × W)} {k : Key} {Q : Sto → Prop} (h : S a = some (.dk kvs)) (hk : keyW x = some k) (hl : kvs.length < sizeLine) (q : Q (sup S a (.dk (setK kvs k v)))) : setW (.ref a) x v S Q := ⟨a, rfl, .inr (.inl ⟨kvs, k, h, hk, hl, q⟩)⟩
theorem ixN_nat {n j : Nat} (h : j < n) : ixN n (j : Int) = some j := by
  unfold ixN
  rw [if_pos (by omega), if_pos (by omega)]
  rfl
theorem ixN_int {n : Nat} {i : Int} (h0 : 0 ≤ i) (h : i < n) : ixN n i = some i.toNat := by
  unfold ixN
  rw [if_pos h0, if_pos h]
theorem atI_int {α : Type} {zs : List α} {i : Int} {z : α} (h0 : 0 ≤ i) (h : zs[i.toNat]? = some z) : atI zs i = some z := by
  have hl : i.toNat < zs.length := (List.getElem?_eq_some_iff.mp h).1
  unfold atI
  rw [ixN_int h0 (by omega)]
  exact h
/-- built-ins -/
theorem l_len {zs : List W} (h : rdQ S x = some zs) (hx : ∀ z, x ≠ .str z := by intro _ h; cases h) (q : Q (.int zs.length) S) : bltW live .len [x] S Q := by
  cases x <;> first | exact absurd rfl (hx _) | exact .inl ⟨zs, h, q⟩
theorem l_lenK {kvs : List (Key × W)} (h : S a = some (.dk kvs)) (q : Q (.int kvs.length) S) : bltW live .len [.ref a] S Q := .inr (.inl ⟨a, kvs, rfl, by rw [h]; rfl, q⟩)
theorem l_lenS {z : Str} (h : z.length ≤ sizeLine) (q : Q (.int z.length) S) : bltW live .len [.str z] S Q := ⟨h, q⟩
theorem l_abs (q : Q (.int (if i < 0 then -i else i)) S) : bltW live .abs [.int i] S Q := q
theorem l_max2 {j : Int} (q : ∀ m, m = max i j → Q (.int m) S) : bltW live .max2 [.int i, .int j] S Q := q _ (by
  by_cases h : j > i
  · rw [if_pos h]; omega
  · rw [if_neg h]; omega)
theorem l_min2 {j : Int} (q : ∀ m, m = min i j → Q (.int m) S) : bltW live .min2 [.int i, .int j] S Q := q _ (by
  by_cases h : j < i
  · rw [if_pos h]; omega
  · rw [if_neg h]; omega)
theorem ints_map : ∀ ns : List Int, intsW (ns.map W.int) = some ns
  | [] => rfl
  | n :: ns => by
    show (intsW (ns.map W.int)).map (n :: ·) = _
    rw [ints_map ns]; rfl
theorem bls_map : ∀ ns : List Bool, blsW (ns.map W.bl) = some ns
  | [] => rfl
  | n :: ns => by
    show (blsW (ns.map W.bl)).map (n :: ·) = _
    rw [bls_map ns]; rfl
theorem strs_map : ∀ ns : List Str, strsW (ns.map W.str) = some ns
  | [] => rfl
  | n :: ns => by
    show (strsW (ns.map W.str)).map (n :: ·) = _
    rw [strs_map ns]; rfl
theorem l_sum {ns : List Int} (h : rdL S x = some (ns.map W.int)) (q : Q (.int ns.sum) S) : bltW live .sum [x] S Q := ⟨_, ns, h, ints_map ns, q⟩
theorem l_minL {ns : List Int} (h : rdL S x = some (ns.map W.int)) (h0 : 0 < ns.length) (q : ∀ m, m ∈ ns → (∀ y, y ∈ ns → m ≤ y) → Q (.int m) S) : bltW live .minL [x] S Q := ⟨_, ns, h, ints_map ns, h0, q⟩
theorem l_maxL {ns : List Int} (h : rdL S x = some (ns.map W.int)) (h0 : 0 < ns.length) (q : ∀ m, m ∈ ns → (∀ y, y ∈ ns → y ≤ m) → Q (.int m) S) : bltW live .maxL [x] S Q := ⟨_, ns, h, ints_map ns, h0, q⟩
theorem l_all {ns : List Bool} (h : rdL S x = some (ns.map W.bl)) (q : Q (.bl (ns.all id)) S) : bltW live .all [x] S Q := ⟨_, ns, h, bls_map ns, q⟩
theorem l_any {ns : List Bool} (h : rdL S x = some (ns.map W.bl)) (q : Q (.bl (ns.any id)) S) : bltW live .any [x] S Q := ⟨_, ns, h, bls_map ns, q⟩
theorem l_intI (q : Q (.int i) S) : bltW live .int [.int i] S Q := q
theorem l_intB {b : Bool} (q : Q (.int (if b then 1 else 0)) S) : bltW live .int [.bl b] S Q := q
theorem l_list {zs : List W} (h : rdQ S x = some zs) (q : mkL live zs S Q) : bltW live .list [x] S Q := ⟨zs, h, q⟩
theorem l_tuple {zs : List W} (h : rdQ S x = some zs) (q : Q (.tup zs) S) : bltW live .tuple [x] S Q := ⟨zs, h, q⟩
/-- methods -/
theorem m_rcv {R : Prop} {m : Mth} (hm : m.T = "list" := by rfl) (h : S a = some (.lst ws)) (q : R) : rcvW m (.ref a) S ∧ R := by
  refine ⟨?_, q⟩
  cases m <;> first | exact ⟨ws, h⟩ | (cases hm; done) | exact absurd hm (by decide)
theorem m_app (h : S a = some (.lst ws)) (hl : ws.length < sizeLine) (q : Q .non (sup S a (.lst (ws ++ [y])))) : mthW .append (.ref a) [y] S Q := ⟨ws, h, hl, q⟩
theorem m_pop (h : S a = some (.lst ws)) (hw : ws[ws.length - 1]? = some w) (q : Q w (sup S a (.lst ws.dropLast))) : mthW .pop (.ref a) [] S Q := ⟨ws, w, h, hw, q⟩
theorem m_ext {zs : List W} (h : S a = some (.lst ws)) (hz : rdL S y = some zs) (hl : ws.length + zs.length ≤ sizeLine) (q : Q .non (sup S a (.lst (ws ++ zs)))) : mthW .extend (.ref a) [y] S Q := ⟨ws, zs, h, hz, hl, q⟩
/-- slices -/
theorem sl_f {zs : List W} {lo hi : Option Int} (q : Q (.lst (cutW zs lo hi)) S) : slcW false (.lst zs) lo hi S Q := ⟨zs, rfl, mk_f q⟩
theorem sl_r {zs : List W} {lo hi : Option Int} (h : S a = some (.lst zs)) (q : Q (.lst (cutW zs lo hi)) S) : slcW false (.ref a) lo hi S Q := ⟨zs, by show (S a).bind _ = _; rw [h]; rfl, mk_f q⟩
end
section
variable {Φ : Nat → Spec} {S : Sto} {Q : WK} {X : XC} {D : WEnds} {ρ : Env} {e : CE} {w : W}
theorem e_v0 (q : Q w S) : (wp Φ (.var 0)).e (some w :: ρ) S Q X := ⟨w, rfl, q⟩
theorem g_v0 {r0 : Option W} {Q : Env → Sto → Prop} (q : Q (some w :: ρ) S) : (wp Φ (.tnm 0)).g w (r0 :: ρ) S Q := q
theorem s_u0 {nx bk ct : Env → Sto → Prop} {rt : WK} {xc : XC} {sb : Bool} (h : (wp Φ e).e (some w :: ρ) S (fun y S1 => ∃ a b, w = .int a ∧ y = .int b ∧ nx (some (.int (augI sb a b)) :: ρ) S1) xc) : wps Φ (.aug 0 sb e) (some w :: ρ) S ⟨nx, rt, bk, ct, xc⟩ := ⟨w, rfl, h⟩
theorem e_v1 {r0 : Option W} (q : Q w S) : (wp Φ (.var 1)).e (r0 :: some w :: ρ) S Q X := ⟨w, rfl, q⟩
theorem g_v1 {r0 : Option W} {r1 : Option W} {Q : Env → Sto → Prop} (q : Q (r0 :: some w :: ρ) S) : (wp Φ (.tnm 1)).g w (r0 :: r1 :: ρ) S Q := q
theorem s_u1 {nx bk ct : Env → Sto → Prop} {rt : WK} {xc : XC} {r0 : Option W} {sb : Bool} (h : (wp Φ e).e (r0 :: some w :: ρ) S (fun y S1 => ∃ a b, w = .int a ∧ y = .int b ∧ nx (r0 :: some (.int (augI sb a b)) :: ρ) S1) xc) : wps Φ (.aug 1 sb e) (r0 :: some w :: ρ) S ⟨nx, rt, bk, ct, xc⟩ := ⟨w, rfl, h⟩
theorem e_v2 {r0 r1 : Option W} (q : Q w S) : (wp Φ (.var 2)).e (r0 :: r1 :: some w :: ρ) S Q X := ⟨w, rfl, q⟩
theorem g_v2 {r0 r1 : Option W} {r2 : Option W} {Q : Env → Sto → Prop} (q : Q (r0 :: r1 :: some w :: ρ) S) : (wp Φ (.tnm 2)).g w (r0 :: r1 :: r2 :: ρ) S Q := q
theorem s_u2 {nx bk ct : Env → Sto → Prop} {rt : WK} {xc : XC} {r0 r1 : Option W} {sb : Bool} (h : (wp Φ e).e (r0 :: r1 :: some w :: ρ) S (fun y S1 => ∃ a b, w = .int a ∧ y = .int b ∧ nx (r0 :: r1 :: some (.int (augI sb a b)) :: ρ) S1) xc) : wps Φ (.aug 2 sb e) (r0 :: r1 :: some w :: ρ) S ⟨nx, rt, bk, ct, xc⟩ := ⟨w, rfl, h⟩
theorem e_v3 {r0 r1 r2 : Option W} (q : Q w S) : (wp Φ (.var 3)).e (r0 :: r1 :: r2 :: some w :: ρ) S Q X := ⟨w, rfl, q⟩
theorem g_v3 {r0 r1 r2 : Option W} {r3 : Option W} {Q : Env → Sto → Prop} (q : Q (r0 :: r1 :: r2 :: some w :: ρ) S) : (wp Φ (.tnm 3)).g w (r0 :: r1 :: r2 :: r3 :: ρ) S Q := q
theorem s_u3 {nx bk ct : Env → Sto → Prop} {rt : WK} {xc : XC} {r0 r1 r2 : Option W} {sb : Bool} (h : (wp Φ e).e (r0 :: r1 :: r2 :: some w :: ρ) S (fun y S1 => ∃ a b, w = .int a ∧ y = .int b ∧ nx (r0 :: r1 :: r2 :: some (.int (augI sb a b)) :: ρ) S1) xc) : wps Φ (.aug 3 sb e) (r0 :: r1 :: r2 :: some w :: ρ) S ⟨nx, rt, bk, ct, xc⟩ := ⟨w, rfl, h⟩
theorem e_v4 {r0 r1 r2 r3 : Option W} (q : Q w S) : (wp Φ (.var 4)).e (r0 :: r1 :: r2 :: r3 :: some w :: ρ) S Q X := ⟨w, rfl, q⟩
theorem g_v4 {r0 r1 r2 r3 : Option W} {r4 : Option W} {Q : Env → Sto → Prop} (q : Q (r0 :: r1 :: r2 :: r3 :: some w :: ρ) S) : (wp Φ (.tnm 4)).g w (r0 :: r1 :: r2 :: r3 :: r4 :: ρ) S Q := q
theorem s_u4 {nx bk ct : Env → Sto → Prop} {rt : WK} {xc : XC} {r0 r1 r2 r3 : Option W} {sb : Bool} (h : (wp Φ e).e (r0 :: r1 :: r2 :: r3 :: some w :: ρ) S (fun y S1 => ∃ a b, w = .int a ∧ y = .int b ∧ nx (r0 :: r1 :: r2 :: r3 :: some (.int (augI sb a b)) :: ρ) S1) xc) : wps Φ (.aug 4 sb e) (r0 :: r1 :: r2 :: r3 :: some w :: ρ) S ⟨nx, rt, bk, ct, xc⟩ := ⟨w, rfl, h⟩
theorem e_v5 {r0 r1 r2 r3 r4 : Option W} (q : Q w S) : (wp Φ (.var 5)).e (r0 :: r1 :: r2 :: r3 :: r4 :: some w :: ρ) S Q X := ⟨w, rfl, q⟩
theorem g_v5 {r0 r1 r2 r3 r4 : Option W} {r5 : Option W} {Q : Env → Sto → Prop} (q : Q (r0 :: r1 :: r2 :: r3 :: r4 :: some w :: ρ) S) : (wp Φ (.tnm 5)).g w (r0 :: r1 :: r2 :: r3 :: r4 :: r5 :: ρ) S Q := q
theorem s_u5 {nx bk ct : Env → Sto → Prop} {rt : WK} {xc : XC} {r0 r1 r2 r3 r4 : Option W} {sb : Bool} (h : (wp Φ e).e (r0 :: r1 :: r2 :: r3 :: r4 :: some w :: ρ) S (fun y S1 => ∃ a b, w = .int a ∧ y = .int b ∧ nx (r0 :: r1 :: r2 :: r3 :: r4 :: some (.int (augI sb a b)) :: ρ) S1) xc) : wps Φ (.aug 5 sb e) (r0 :: r1 :: r2 :: r3 :: r4 :: some w :: ρ) S ⟨nx, rt, bk, ct, xc⟩ := ⟨w, rfl, h⟩
theorem e_v6 {r0 r1 r2 r3 r4 r5 : Option W} (q : Q w S) : (wp Φ (.var 6)).e (r0 :: r1 :: r2 :: r3 :: r4 :: r5 :: some w :: ρ) S Q X := ⟨w, rfl, q⟩
theorem g_v6 {r0 r1 r2 r3 r4 r5 : Option W} {r6 : Option W} {Q : Env → Sto → Prop} (q : Q (r0 :: r1 :: r2 :: r3 :: r4 :: r5 :: some w :: ρ) S) : (wp Φ (.tnm 6)).g w (r0 :: r1 :: r2 :: r3 :: r4 :: r5 :: r6 :: ρ) S Q := q
theorem s_u6 {nx bk ct : Env → Sto → Prop} {rt : WK} {xc : XC} {r0 r1 r2 r3 r4 r5 : Option W} {sb : Bool} (h : (wp Φ e).e (r0 :: r1 :: r2 :: r3 :: r4 :: r5 :: some w :: ρ) S (fun y S1 => ∃ a b, w = .int a ∧ y = .int b ∧ nx (r0 :: r1 :: r2 :: r3 :: r4 :: r5 :: some (.int (augI sb a b)) :: ρ) S1) xc) : wps Φ (.aug 6 sb e) (r0 :: r1 :: r2 :: r3 :: r4 :: r5 :: some w :: ρ) S ⟨nx, rt, bk, ct, xc⟩ := ⟨w, rfl, h⟩
theorem e_v7 {r0 r1 r2 r3 r4 r5 r6 : Option W} (q : Q w S) : (wp Φ (.var 7)).e (r0 :: r1 :: r2 :: r3 :: r4 :: r5 :: r6 :: some w :: ρ) S Q X := ⟨w, rfl, q⟩
theorem g_v7 {r0 r1 r2 r3 r4 r5 r6 : Option W} {r7 : Option W} {Q : Env → Sto → Prop} (q : Q (r0 :: r1 :: r2 :: r3 :: r4 :: r5 :: r6 :: some w :: ρ) S) : (wp Φ (.tnm 7)).g w (r0 :: r1 :: r2 :: r3 :: r4 :: r5 :: r6 :: r7 :: ρ) S Q := q
theorem s_u7 {nx bk ct : Env → Sto → Prop} {rt : WK} {xc : XC} {r0 r1 r2 r3 r4 r5 r6 : Option W} {sb : Bool} (h : (wp Φ e).e (r0 :: r1 :: r2 :: r3 :: r4 :: r5 :: r6 :: some w :: ρ) S (fun y S1 => ∃ a b, w = .int a ∧ y = .int b ∧ nx (r0 :: r1 :: r2 :: r3 :: r4 :: r5 :: r6 :: some (.int (augI sb a b)) :: ρ) S1) xc) : wps Φ (.aug 7 sb e) (r0 :: r1 :: r2 :: r3 :: r4 :: r5 :: r6 :: some w :: ρ) S ⟨nx, rt, bk, ct, xc⟩ := ⟨w, rfl, h⟩
theorem e_v8 {r0 r1 r2 r3 r4 r5 r6 r7 : Option W} (q : Q w S) : (wp Φ (.var 8)).e (r0 :: r1 :: r2 :: r3 :: r4 :: r5 :: r6 :: r7 :: some w :: ρ) S Q X := ⟨w, rfl, q⟩
theorem g_v8 {r0 r1 r2 r3 r4 r5 r6 r7 : Option W} {r8 : Option W} {Q : Env → Sto → Prop} (q : Q (r0 :: r1 :: r2 :: r3 :: r4 :: r5 :: r6 :: r7 :: some w :: ρ) S) : (wp Φ (.tnm 8)).g w (r0 :: r1 :: r2 :: r3 :: r4 :: r5 :: r6 :: r7 :: r8 :: ρ) S Q := q
theorem s_u8 {nx bk ct : Env → Sto → Prop} {rt : WK} {xc : XC} {r0 r1 r2 r3 r4 r5 r6 r7 : Option W} {sb : Bool} (h : (wp Φ e).e (r0 :: r1 :: r2 :: r3 :: r4 :: r5 :: r6 :: r7 :: some w :: ρ) S (fun y S1 => ∃ a b, w = .int a ∧ y = .int b ∧ nx (r0 :: r1 :: r2 :: r3 :: r4 :: r5 :: r6 :: r7 :: some (.int (augI sb a b)) :: ρ) S1) xc) : wps Φ (.aug 8 sb e) (r0 :: r1 :: r2 :: r3 :: r4 :: r5 :: r6 :: r7 :: some w :: ρ) S ⟨nx, rt, bk, ct, xc⟩ := ⟨w, rfl, h⟩
theorem e_v9 {r0 r1 r2 r3 r4 r5 r6 r7 r8 : Option W} (q : Q w S) : (wp Φ (.var 9)).e (r0 :: r1 :: r2 :: r3 :: r4 :: r5 :: r6 :: r7 :: r8 :: some w :: ρ) S Q X := ⟨w, rfl, q⟩
theorem g_v9 {r0 r1 r2 r3 r4 r5 r6 r7 r8 : Option W} {r9 : Option W} {Q : Env → Sto → Prop} (q : Q (r0 :: r1 :: r2 :: r3 :: r4 :: r5 :: r6 :: r7 :: r8 :: some w :: ρ) S) : (wp Φ (.tnm 9)).g w (r0 :: r1 :: r2 :: r3 :: r4 :: r5 :: r6 :: r7 :: r8 :: r9 :: ρ) S Q := q
theorem s_u9 {nx bk ct : Env → Sto → Prop} {rt : WK} {xc : XC} {r0 r1 r2 r3 r4 r5 r6 r7 r8 : Option W} {sb : Bool} (h : (wp Φ e).e (r0 :: r1 :: r2 :: r3 :: r4 :: r5 :: r6 :: r7 :: r8 :: some w :: ρ) S (fun y S1 => ∃ a b, w = .int a ∧ y = .int b ∧ nx (r0 :: r1 :: r2 :: r3 :: r4 :: r5 :: r6 :: r7 :: r8 :: some (.int (augI sb a b)) :: ρ) S1) xc) : wps Φ (.aug 9 sb e) (r0 :: r1 :: r2 :: r3 :: r4 :: r5 :: r6 :: r7 :: r8 :: some w :: ρ) S ⟨nx, rt, bk, ct, xc⟩ := ⟨w, rfl, h⟩
theorem e_v10 {r0 r1 r2 r3 r4 r5 r6 r7 r8 r9 : Option W} (q : Q w S) : (wp Φ (.var 10)).e (r0 :: r1 :: r2 :: r3 :: r4 :: r5 :: r6 :: r7 :: r8 :: r9 :: some w :: ρ) S Q X := ⟨w, rfl, q⟩
theorem g_v10 {r0 r1 r2 r3 r4 r5 r6 r7 r8 r9 : Option W} {r10 : Option W} {Q : Env → Sto → Prop} (q : Q (r0 :: r1 :: r2 :: r3 :: r4 :: r5 :: r6 :: r7 :: r8 :: r9 :: some w :: ρ) S) : (wp Φ (.tnm 10)).g w (r0 :: r1 :: r2 :: r3 :: r4 :: r5 :: r6 :: r7 :: r8 :: r9 :: r10 :: ρ) S Q := q
theorem s_u10 {nx bk ct : Env → Sto → Prop} {rt : WK} {xc : XC} {r0 r1 r2 r3 r4 r5 r6 r7 r8 r9 : Option W} {sb : Bool} (h : (wp Φ e).e (r0 :: r1 :: r2 :: r3 :: r4 :: r5 :: r6 :: r7 :: r8 :: r9 :: some w :: ρ) S (fun y S1 => ∃ a b, w = .int a ∧ y = .int b ∧ nx (r0 :: r1 :: r2 :: r3 :: r4 :: r5 :: r6 :: r7 :: r8 :: r9 :: some (.int (augI sb a b)) :: ρ) S1) xc) : wps Φ (.aug 10 sb e) (r0 :: r1 :: r2 :: r3 :: r4 :: r5 :: r6 :: r7 :: r8 :: r9 :: some w :: ρ) S ⟨nx, rt, bk, ct, xc⟩ := ⟨w, rfl, h⟩
theorem e_v11 {r0 r1 r2 r3 r4 r5 r6 r7 r8 r9 r10 : Option W} (q : Q w S) : (wp Φ (.var 11)).e (r0 :: r1 :: r2 :: r3 :: r4 :: r5 :: r6 :: r7 :: r8 :: r9 :: r10 :: some w :: ρ) S Q X := ⟨w, rfl, q⟩
theorem g_v11 {r0 r1 r2 r3 r4 r5 r6 r7 r8 r9 r10 : Option W} {r11 : Option W} {Q : Env → Sto → Prop} (q : Q (r0 :: r1 :: r2 :: r3 :: r4 :: r5 :: r6 :: r7 :: r8 :: r9 :: r10 :: some w :: ρ) S) : (wp Φ (.tnm 11)).g w (r0 :: r1 :: r2 :: r3 :: r4 :: r5 :: r6 :: r7 :: r8 :: r9 :: r10 :: r11 :: ρ) S Q := q
theorem s_u11 {nx bk ct : Env → Sto → Prop} {rt : WK} {xc : XC} {r0 r1 r2 r3 r4 r5 r6 r7 r8 r9 r10 : Option W} {sb : Bool} (h : (wp Φ e).e (r0 :: r1 :: r2 :: r3 :: r4 :: r5 :: r6 :: r7 :: r8 :: r9 :: r10 :: some w :: ρ) S (fun y S1 => ∃ a b, w = .int a ∧ y = .int b ∧ nx (r0 :: r1 :: r2 :: r3 :: r4 :: r5 :: r6 :: r7 :: r8 :: r9 :: r10 :: some (.int (augI sb a b)) :: ρ) S1) xc) : wps Φ (.aug 11 sb e) (r0 :: r1 :: r2 :: r3 :: r4 :: r5 :: r6 :: r7 :: r8 :: r9 :: r10 :: some w :: ρ) S ⟨nx, rt, bk, ct, xc⟩ := ⟨w, rfl, h⟩
theorem e_v12 {r0 r1 r2 r3 r4 r5 r6 r7 r8 r9 r10 r11 : Option W} (q : Q w S) : (wp Φ (.var 12)).e (r0 :: r1 :: r2 :: r3 :: r4 :: r5 :: r6 :: r7 :: r8 :: r9 :: r10 :: r11 :: some w :: ρ) S Q X := ⟨w, rfl, q⟩
theorem g_v12 {r0 r1 r2 r3 r4 r5 r6 r7 r8 r9 r10 r11 : Option W} {r12 : Option W} {Q : Env → Sto → Prop} (q : Q (r0 :: r1 :: r2 :: r3 :: r4 :: r5 :: r6 :: r7 :: r8 :: r9 :: r10 :: r11 :: some w :: ρ) S) : (wp Φ (.tnm 12)).g w (r0 :: r1 :: r2 :: r3 :: r4 :: r5 :: r6 :: r7 :: r8 :: r9 :: r10 :: r11 :: r12 :: ρ) S Q := q
theorem s_u12 {nx bk ct : Env → Sto → Prop} {rt : WK} {xc : XC} {r0 r1 r2 r3 r4 r5 r6 r7 r8 r9 r10 r11 : Option W} {sb : Bool} (h : (wp Φ e).e (r0 :: r1 :: r2 :: r3 :: r4 :: r5 :: r6 :: r7 :: r8 :: r9 :: r10 :: r11 :: some w :: ρ) S (fun y S1 => ∃ a b, w = .int a ∧ y = .int b ∧ nx (r0 :: r1 :: r2 :: r3 :: r4 :: r5 :: r6 :: r7 :: r8 :: r9 :: r10 :: r11 :: some (.int (augI sb a b)) :: ρ) S1) xc) : wps Φ (.aug 12 sb e) (r0 :: r1 :: r2 :: r3 :: r4 :: r5 :: r6 :: r7 :: r8 :: r9 :: r10 :: r11 :: some w :: ρ) S ⟨nx, rt, bk, ct, xc⟩ := ⟨w, rfl, h⟩
theorem e_v13 {r0 r1 r2 r3 r4 r5 r6 r7 r8 r9 r10 r11 r12 : Option W} (q : Q w S) : (wp Φ (.var 13)).e (r0 :: r1 :: r2 :: r3 :: r4 :: r5 :: r6 :: r7 :: r8 :: r9 :: r10 :: r11 :: r12 :: some w :: ρ) S Q X := ⟨w, rfl, q⟩
theorem g_v13 {r0 r1 r2 r3 r4 r5 r6 r7 r8 r9 r10 r11 r12 : Option W} {r13 : Option W} {Q : Env → Sto → Prop} (q : Q (r0 :: r1 :: r2 :: r3 :: r4 :: r5 :: r6 :: r7 :: r8 :: r9 :: r10 :: r11 :: r12 :: some w :: ρ) S) : (wp Φ (.tnm 13)).g w (r0 :: r1 :: r2 :: r3 :: r4 :: r5 :: r6 :: r7 :: r8 :: r9 :: r10 :: r11 :: r12 :: r13 :: ρ) S Q := q
theorem s_u13 {nx bk ct : Env → Sto → Prop} {rt : WK} {xc : XC} {r0 r1 r2 r3 r4 r5 r6 r7 r8 r9 r10 r11 r12 : Option W} {sb : Bool} (h : (wp Φ e).e (r0 :: r1 :: r2 :: r3 :: r4 :: r5 :: r6 :: r7 :: r8 :: r9 :: r10 :: r11 :: r12 :: some w :: ρ) S (fun y S1 => ∃ a b, w = .int a ∧ y = .int b ∧ nx (r0 :: r1 :: r2 :: r3 :: r4 :: r5 :: r6 :: r7 :: r8 :: r9 :: r10 :: r11 :: r12 :: some (.int (augI sb a b)) :: ρ) S1) xc) : wps Φ (.aug 13 sb e) (r0 :: r1 :: r2 :: r3 :: r4 :: r5 :: r6 :: r7 :: r8 :: r9 :: r10 :: r11 :: r12 :: some w :: ρ) S ⟨nx, rt, bk, ct, xc⟩ := ⟨w, rfl, h⟩
theorem e_v14 {r0 r1 r2 r3 r4 r5 r6 r7 r8 r9 r10 r11 r12 r13 : Option W} (q : Q w S) : (wp Φ (.var 14)).e (r0 :: r1 :: r2 :: r3 :: r4 :: r5 :: r6 :: r7 :: r8 :: r9 :: r10 :: r11 :: r12 :: r13 :: some w :: ρ) S Q X := ⟨w, rfl, q⟩
theorem g_v14 {r0 r1 r2 r3 r4 r5 r6 r7 r8 r9 r10 r11 r12 r13 : Option W} {r14 : Option W} {Q : Env → Sto → Prop} (q : Q (r0 :: r1 :: r2 :: r3 :: r4 :: r5 :: r6 :: r7 :: r8 :: r9 :: r10 :: r11 :: r12 :: r13 :: some w :: ρ) S) : (wp Φ (.tnm 14)).g w (r0 :: r1 :: r2 :: r3 :: r4 :: r5 :: r6 :: r7 :: r8 :: r9 :: r10 :: r11 :: r12 :: r13 :: r14 :: ρ) S Q := q
theorem s_u14 {nx bk ct : Env → Sto → Prop} {rt : WK} {xc : XC} {r0 r1 r2 r3 r4 r5 r6 r7 r8 r9 r10 r11 r12 r13 : Option W} {sb : Bool} (h : (wp Φ e).e (r0 :: r1 :: r2 :: r3 :: r4 :: r5 :: r6 :: r7 :: r8 :: r9 :: r10 :: r11 :: r12 :: r13 :: some w :: ρ) S (fun y S1 => ∃ a b, w = .int a ∧ y = .int b ∧ nx (r0 :: r1 :: r2 :: r3 :: r4 :: r5 :: r6 :: r7 :: r8 :: r9 :: r10 :: r11 :: r12 :: r13 :: some (.int (augI sb a b)) :: ρ) S1) xc) : wps Φ (.aug 14 sb e) (r0 :: r1 :: r2 :: r3 :: r4 :: r5 :: r6 :: r7 :: r8 :: r9 :: r10 :: r11 :: r12 :: r13 :: some w :: ρ) S ⟨nx, rt, bk, ct, xc⟩ := ⟨w, rfl, h⟩
theorem e_v15 {r0 r1 r2 r3 r4 r5 r6 r7 r8 r9 r10 r11 r12 r13 r14 : Option W} (q : Q w S) : (wp Φ (.var 15)).e (r0 :: r1 :: r2 :: r3 :: r4 :: r5 :: r6 :: r7 :: r8 :: r9 :: r10 :: r11 :: r12 :: r13 :: r14 :: some w :: ρ) S Q X := ⟨w, rfl, q⟩
theorem g_v15 {r0 r1 r2 r3 r4 r5 r6 r7 r8 r9 r10 r11 r12 r13 r14 : Option W} {r15 : Option W} {Q : Env → Sto → Prop} (q : Q (r0 :: r1 :: r2 :: r3 :: r4 :: r5 :: r6 :: r7 :: r8 :: r9 :: r10 :: r11 :: r12 :: r13 :: r14 :: some w :: ρ) S) : (wp Φ (.tnm 15)).g w (r0 :: r1 :: r2 :: r3 :: r4 :: r5 :: r6 :: r7 :: r8 :: r9 :: r10 :: r11 :: r12 :: r13 :: r14 :: r15 :: ρ) S Q := q
theorem s_u15 {nx bk ct : Env → Sto → Prop} {rt : WK} {xc : XC} {r0 r1 r2 r3 r4 r5 r6 r7 r8 r9 r10 r11 r12 r13 r14 : Option W} {sb : Bool} (h : (wp Φ e).e (r0 :: r1 :: r2 :: r3 :: r4 :: r5 :: r6 :: r7 :: r8 :: r9 :: r10 :: r11 :: r12 :: r13 :: r14 :: some w :: ρ) S (fun y S1 => ∃ a b, w = .int a ∧ y = .int b ∧ nx (r0 :: r1 :: r2 :: r3 :: r4 :: r5 :: r6 :: r7 :: r8 :: r9 :: r10 :: r11 :: r12 :: r13 :: r14 :: some (.int (augI sb a b)) :: ρ) S1) xc) : wps Φ (.aug 15 sb e) (r0 :: r1 :: r2 :: r3 :: r4 :: r5 :: r6 :: r7 :: r8 :: r9 :: r10 :: r11 :: r12 :: r13 :: r14 :: some w :: ρ) S ⟨nx, rt, bk, ct, xc⟩ := ⟨w, rfl, h⟩
theorem e_v16 {r0 r1 r2 r3 r4 r5 r6 r7 r8 r9 r10 r11 r12 r13 r14 r15 : Option W} (q : Q w S) : (wp Φ (.var 16)).e (r0 :: r1 :: r2 :: r3 :: r4 :: r5 :: r6 :: r7 :: r8 :: r9 :: r10 :: r11 :: r12 :: r13 :: r14 :: r15 :: some w :: ρ) S Q X := ⟨w, rfl, q⟩
theorem g_v16 {r0 r1 r2 r3 r4 r5 r6 r7 r8 r9 r10 r11 r12 r13 r14 r15 : Option W} {r16 : Option W} {Q : Env → Sto → Prop} (q : Q (r0 :: r1 :: r2 :: r3 :: r4 :: r5 :: r6 :: r7 :: r8 :: r9 :: r10 :: r11 :: r12 :: r13 :: r14 :: r15 :: some w :: ρ) S) : (wp Φ (.tnm 16)).g w (r0 :: r1 :: r2 :: r3 :: r4 :: r5 :: r6 :: r7 :: r8 :: r9 :: r10 :: r11 :: r12 :: r13 :: r14 :: r15 :: r16 :: ρ) S Q := q
theorem s_u16 {nx bk ct : Env → Sto → Prop} {rt : WK} {xc : XC} {r0 r1 r2 r3 r4 r5 r6 r7 r8 r9 r10 r11 r12 r13 r14 r15 : Option W} {sb : Bool} (h : (wp Φ e).e (r0 :: r1 :: r2 :: r3 :: r4 :: r5 :: r6 :: r7 :: r8 :: r9 :: r10 :: r11 :: r12 :: r13 :: r14 :: r15 :: some w :: ρ) S (fun y S1 => ∃ a b, w = .int a ∧ y = .int b ∧ nx (r0 :: r1 :: r2 :: r3 :: r4 :: r5 :: r6 :: r7 :: r8 :: r9 :: r10 :: r11 :: r12 :: r13 :: r14 :: r15 :: some (.int (augI sb a b)) :: ρ) S1) xc) : wps Φ (.aug 16 sb e) (r0 :: r1 :: r2 :: r3 :: r4 :: r5 :: r6 :: r7 :: r8 :: r9 :: r10 :: r11 :: r12 :: r13 :: r14 :: r15 :: some w :: ρ) S ⟨nx, rt, bk, ct, xc⟩ := ⟨w, rfl, h⟩
theorem e_v17 {r0 r1 r2 r3 r4 r5 r6 r7 r8 r9 r10 r11 r12 r13 r14 r15 r16 : Option W} (q : Q w S) : (wp Φ (.var 17)).e (r0 :: r1 :: r2 :: r3 :: r4 :: r5 :: r6 :: r7 :: r8 :: r9 :: r10 :: r11 :: r12 :: r13 :: r14 :: r15 :: r16 :: some w :: ρ) S Q X := ⟨w, rfl, q⟩
theorem g_v17 {r0 r1 r2 r3 r4 r5 r6 r7 r8 r9 r10 r11 r12 r13 r14 r15 r16 : Option W} {r17 : Option W} {Q : Env → Sto → Prop} (q : Q (r0 :: r1 :: r2 :: r3 :: r4 :: r5 :: r6 :: r7 :: r8 :: r9 :: r10 :: r11 :: r12 :: r13 :: r14 :: r15 :: r16 :: some w :: ρ) S) : (wp Φ (.tnm 17)).g w (r0 :: r1 :: r2 :: r3 :: r4 :: r5 :: r6 :: r7 :: r8 :: r9 :: r10 :: r11 :: r12 :: r13 :: r14 :: r15 :: r16 :: r17 :: ρ) S Q := q
theorem s_u17 {nx bk ct : Env → Sto → Prop} {rt : WK} {xc : XC} {r0 r1 r2 r3 r4 r5 r6 r7 r8 r9 r10 r11 r12 r13 r14 r15 r16 : Option W} {sb : Bool} (h : (wp Φ e).e (r0 :: r1 :: r2 :: r3 :: r4 :: r5 :: r6 :: r7 :: r8 :: r9 :: r10 :: r11 :: r12 :: r13 :: r14 :: r15 :: r16 :: some w :: ρ) S (fun y S1 => ∃ a b, w = .int a ∧ y = .int b ∧ nx (r0 :: r1 :: r2 :: r3 :: r4 :: r5 :: r6 :: r7 :: r8 :: r9 :: r10 :: r11 :: r12 :: r13 :: r14 :: r15 :: r16 :: some (.int (augI sb a b)) :: ρ) S1) xc) : wps Φ (.aug 17 sb e) (r0 :: r1 :: r2 :: r3 :: r4 :: r5 :: r6 :: r7 :: r8 :: r9 :: r10 :: r11 :: r12 :: r13 :: r14 :: r15 :: r16 :: some w :: ρ) S ⟨nx, rt, bk, ct, xc⟩ := ⟨w, rfl, h⟩
theorem e_v18 {r0 r1 r2 r3 r4 r5 r6 r7 r8 r9 r10 r11 r12 r13 r14 r15 r16 r17 : Option W} (q : Q w S) : (wp Φ (.var 18)).e (r0 :: r1 :: r2 :: r3 :: r4 :: r5 :: r6 :: r7 :: r8 :: r9 :: r10 :: r11 :: r12 :: r13 :: r14 :: r15 :: r16 :: r17 :: some w :: ρ) S Q X := ⟨w, rfl, q⟩
theorem g_v18 {r0 r1 r2 r3 r4 r5 r6 r7 r8 r9 r10 r11 r12 r13 r14 r15 r16 r17 : Option W} {r18 : Option W} {Q : Env → Sto → Prop} (q : Q (r0 :: r1 :: r2 :: r3 :: r4 :: r5 :: r6 :: r7 :: r8 :: r9 :: r10 :: r11 :: r12 :: r13 :: r14 :: r15 :: r16 :: r17 :: some w :: ρ) S) : (wp Φ (.tnm 18)).g w (r0 :: r1 :: r2 :: r3 :: r4 :: r5 :: r6 :: r7 :: r8 :: r9 :: r10 :: r11 :: r12 :: r13 :: r14 :: r15 :: r16 :: r17 :: r18 :: ρ) S Q := q
theorem s_u18 {nx bk ct : Env → Sto → Prop} {rt : WK} {xc : XC} {r0 r1 r2 r3 r4 r5 r6 r7 r8 r9 r10 r11 r12 r13 r14 r15 r16 r17 : Option W} {sb : Bool} (h : (wp Φ e).e (r0 :: r1 :: r2 :: r3 :: r4 :: r5 :: r6 :: r7 :: r8 :: r9 :: r10 :: r11 :: r12 :: r13 :: r14 :: r15 :: r16 :: r17 :: some w :: ρ) S (fun y S1 => ∃ a b, w = .int a ∧ y = .int b ∧ nx (r0 :: r1 :: r2 :: r3 :: r4 :: r5 :: r6 :: r7 :: r8 :: r9 :: r10 :: r11 :: r12 :: r13 :: r14 :: r15 :: r16 :: r17 :: some (.int (augI sb a b)) :: ρ) S1) xc) : wps Φ (.aug 18 sb e) (r0 :: r1 :: r2 :: r3 :: r4 :: r5 :: r6 :: r7 :: r8 :: r9 :: r10 :: r11 :: r12 :: r13 :: r14 :: r15 :: r16 :: r17 :: some w :: ρ) S ⟨nx, rt, bk, ct, xc⟩ := ⟨w, rfl, h⟩
theorem e_v19 {r0 r1 r2 r3 r4 r5 r6 r7 r8 r9 r10 r11 r12 r13 r14 r15 r16 r17 r18 : Option W} (q : Q w S) : (wp Φ (.var 19)).e (r0 :: r1 :: r2 :: r3 :: r4 :: r5 :: r6 :: r7 :: r8 :: r9 :: r10 :: r11 :: r12 :: r13 :: r14 :: r15 :: r16 :: r17 :: r18 :: some w :: ρ) S Q X := ⟨w, rfl, q⟩
theorem g_v19 {r0 r1 r2 r3 r4 r5 r6 r7 r8 r9 r10 r11 r12 r13 r14 r15 r16 r17 r18 : Option W} {r19 : Option W} {Q : Env → Sto → Prop} (q : Q (r0 :: r1 :: r2 :: r3 :: r4 :: r5 :: r6 :: r7 :: r8 :: r9 :: r10 :: r11 :: r12 :: r13 :: r14 :: r15 :: r16 :: r17 :: r18 :: some w :: ρ) S) : (wp Φ (.tnm 19)).g w (r0 :: r1 :: r2 :: r3 :: r4 :: r5 :: r6 :: r7 :: r8 :: r9 :: r10 :: r11 :: r12 :: r13 :: r14 :: r15 :: r16 :: r17 :: r18 :: r19 :: ρ) S Q := q
theorem s_u19 {nx bk ct : Env → Sto → Prop} {rt : WK} {xc : XC} {r0 r1 r2 r3 r4 r5 r6 r7 r8 r9 r10 r11 r12 r13 r14 r15 r16 r17 r18 : Option W} {sb : Bool} (h : (wp Φ e).e (r0 :: r1 :: r2 :: r3 :: r4 :: r5 :: r6 :: r7 :: r8 :: r9 :: r10 :: r11 :: r12 :: r13 :: r14 :: r15 :: r16 :: r17 :: r18 :: some w :: ρ) S (fun y S1 => ∃ a b, w = .int a ∧ y = .int b ∧ nx (r0 :: r1 :: r2 :: r3 :: r4 :: r5 :: r6 :: r7 :: r8 :: r9 :: r10 :: r11 :: r12 :: r13 :: r14 :: r15 :: r16 :: r17 :: r18 :: some (.int (augI sb a b)) :: ρ) S1) xc) : wps Φ (.aug 19 sb e) (r0 :: r1 :: r2 :: r3 :: r4 :: r5 :: r6 :: r7 :: r8 :: r9 :: r10 :: r11 :: r12 :: r13 :: r14 :: r15 :: r16 :: r17 :: r18 :: some w :: ρ) S ⟨nx, rt, bk, ct, xc⟩ := ⟨w, rfl, h⟩
theorem s_gf0 {nx bk ct : Env → Sto → Prop} {rt : WK} {xc : XC} {p : Addr} {ws : List W} (h1 : S p = some (.lst ws)) (h : nx (some (.lst ws) :: ρ) (sdel S p)) : wps Φ (.gfrz 0) (some (.ref p) :: ρ) S ⟨nx, rt, bk, ct, xc⟩ := ⟨p, ws, rfl, h1, h⟩
theorem s_gf1 {nx bk ct : Env → Sto → Prop} {rt : WK} {xc : XC} {r0 : Option W} {p : Addr} {ws : List W} (h1 : S p = some (.lst ws)) (h : nx (r0 :: some (.lst ws) :: ρ) (sdel S p)) : wps Φ (.gfrz 1) (r0 :: some (.ref p) :: ρ) S ⟨nx, rt, bk, ct, xc⟩ := ⟨p, ws, rfl, h1, h⟩
theorem s_gf2 {nx bk ct : Env → Sto → Prop} {rt : WK} {xc : XC} {r0 r1 : Option W} {p : Addr} {ws : List W} (h1 : S p = some (.lst ws)) (h : nx (r0 :: r1 :: some (.lst ws) :: ρ) (sdel S p)) : wps Φ (.gfrz 2) (r0 :: r1 :: some (.ref p) :: ρ) S ⟨nx, rt, bk, ct, xc⟩ := ⟨p, ws, rfl, h1, h⟩
theorem s_gf3 {nx bk ct : Env → Sto → Prop} {rt : WK} {xc : XC} {r0 r1 r2 : Option W} {p : Addr} {ws : List W} (h1 : S p = some (.lst ws)) (h : nx (r0 :: r1 :: r2 :: some (.lst ws) :: ρ) (sdel S p)) : wps Φ (.gfrz 3) (r0 :: r1 :: r2 :: some (.ref p) :: ρ) S ⟨nx, rt, bk, ct, xc⟩ := ⟨p, ws, rfl, h1, h⟩
theorem s_gf4 {nx bk ct : Env → Sto → Prop} {rt : WK} {xc : XC} {r0 r1 r2 r3 : Option W} {p : Addr} {ws : List W} (h1 : S p = some (.lst ws)) (h : nx (r0 :: r1 :: r2 :: r3 :: some (.lst ws) :: ρ) (sdel S p)) : wps Φ (.gfrz 4) (r0 :: r1 :: r2 :: r3 :: some (.ref p) :: ρ) S ⟨nx, rt, bk, ct, xc⟩ := ⟨p, ws, rfl, h1, h⟩
theorem s_gf5 {nx bk ct : Env → Sto → Prop} {rt : WK} {xc : XC} {r0 r1 r2 r3 r4 : Option W} {p : Addr} {ws : List W} (h1 : S p = some (.lst ws)) (h : nx (r0 :: r1 :: r2 :: r3 :: r4 :: some (.lst ws) :: ρ) (sdel S p)) : wps Φ (.gfrz 5) (r0 :: r1 :: r2 :: r3 :: r4 :: some (.ref p) :: ρ) S ⟨nx, rt, bk, ct, xc⟩ := ⟨p, ws, rfl, h1, h⟩
theorem s_gf6 {nx bk ct : Env → Sto → Prop} {rt : WK} {xc : XC} {r0 r1 r2 r3 r4 r5 : Option W} {p : Addr} {ws : List W} (h1 : S p = some (.lst ws)) (h : nx (r0 :: r1 :: r2 :: r3 :: r4 :: r5 :: some (.lst ws) :: ρ) (sdel S p)) : wps Φ (.gfrz 6) (r0 :: r1 :: r2 :: r3 :: r4 :: r5 :: some (.ref p) :: ρ) S ⟨nx, rt, bk, ct, xc⟩ := ⟨p, ws, rfl, h1, h⟩
theorem s_gf7 {nx bk ct : Env → Sto → Prop} {rt : WK} {xc : XC} {r0 r1 r2 r3 r4 r5 r6 : Option W} {p : Addr} {ws : List W} (h1 : S p = some (.lst ws)) (h : nx (r0 :: r1 :: r2 :: r3 :: r4 :: r5 :: r6 :: some (.lst ws) :: ρ) (sdel S p)) : wps Φ (.gfrz 7) (r0 :: r1 :: r2 :: r3 :: r4 :: r5 :: r6 :: some (.ref p) :: ρ) S ⟨nx, rt, bk, ct, xc⟩ := ⟨p, ws, rfl, h1, h⟩
theorem s_gf8 {nx bk ct : Env → Sto → Prop} {rt : WK} {xc : XC} {r0 r1 r2 r3 r4 r5 r6 r7 : Option W} {p : Addr} {ws : List W} (h1 : S p = some (.lst ws)) (h : nx (r0 :: r1 :: r2 :: r3 :: r4 :: r5 :: r6 :: r7 :: some (.lst ws) :: ρ) (sdel S p)) : wps Φ (.gfrz 8) (r0 :: r1 :: r2 :: r3 :: r4 :: r5 :: r6 :: r7 :: some (.ref p) :: ρ) S ⟨nx, rt, bk, ct, xc⟩ := ⟨p, ws, rfl, h1, h⟩
theorem s_gf9 {nx bk ct : Env → Sto → Prop} {rt : WK} {xc : XC} {r0 r1 r2 r3 r4 r5 r6 r7 r8 : Option W} {p : Addr} {ws : List W} (h1 : S p = some (.lst ws)) (h : nx (r0 :: r1 :: r2 :: r3 :: r4 :: r5 :: r6 :: r7 :: r8 :: some (.lst ws) :: ρ) (sdel S p)) : wps Φ (.gfrz 9) (r0 :: r1 :: r2 :: r3 :: r4 :: r5 :: r6 :: r7 :: r8 :: some (.ref p) :: ρ) S ⟨nx, rt, bk, ct, xc⟩ := ⟨p, ws, rfl, h1, h⟩
theorem s_gf10 {nx bk ct : Env → Sto → Prop} {rt : WK} {xc : XC} {r0 r1 r2 r3 r4 r5 r6 r7 r8 r9 : Option W} {p : Addr} {ws : List W} (h1 : S p = some (.lst ws)) (h : nx (r0 :: r1 :: r2 :: r3 :: r4 :: r5 :: r6 :: r7 :: r8 :: r9 :: some (.lst ws) :: ρ) (sdel S p)) : wps Φ (.gfrz 10) (r0 :: r1 :: r2 :: r3 :: r4 :: r5 :: r6 :: r7 :: r8 :: r9 :: some (.ref p) :: ρ) S ⟨nx, rt, bk, ct, xc⟩ := ⟨p, ws, rfl, h1, h⟩
theorem s_gf11 {nx bk ct : Env → Sto → Prop} {rt : WK} {xc : XC} {r0 r1 r2 r3 r4 r5 r6 r7 r8 r9 r10 : Option W} {p : Addr} {ws : List W} (h1 : S p = some (.lst ws)) (h : nx (r0 :: r1 :: r2 :: r3 :: r4 :: r5 :: r6 :: r7 :: r8 :: r9 :: r10 :: some (.lst ws) :: ρ) (sdel S p)) : wps Φ (.gfrz 11) (r0 :: r1 :: r2 :: r3 :: r4 :: r5 :: r6 :: r7 :: r8 :: r9 :: r10 :: some (.ref p) :: ρ) S ⟨nx, rt, bk, ct, xc⟩ := ⟨p, ws, rfl, h1, h⟩
theorem s_gf12 {nx bk ct : Env → Sto → Prop} {rt : WK} {xc : XC} {r0 r1 r2 r3 r4 r5 r6 r7 r8 r9 r10 r11 : Option W} {p : Addr} {ws : List W} (h1 : S p = some (.lst ws)) (h : nx (r0 :: r1 :: r2 :: r3 :: r4 :: r5 :: r6 :: r7 :: r8 :: r9 :: r10 :: r11 :: some (.lst ws) :: ρ) (sdel S p)) : wps Φ (.gfrz 12) (r0 :: r1 :: r2 :: r3 :: r4 :: r5 :: r6 :: r7 :: r8 :: r9 :: r10 :: r11 :: some (.ref p) :: ρ) S ⟨nx, rt, bk, ct, xc⟩ := ⟨p, ws, rfl, h1, h⟩
theorem s_gf13 {nx bk ct : Env → Sto → Prop} {rt : WK} {xc : XC} {r0 r1 r2 r3 r4 r5 r6 r7 r8 r9 r10 r11 r12 : Option W} {p : Addr} {ws : List W} (h1 : S p = some (.lst ws)) (h : nx (r0 :: r1 :: r2 :: r3 :: r4 :: r5 :: r6 :: r7 :: r8 :: r9 :: r10 :: r11 :: r12 :: some (.lst ws) :: ρ) (sdel S p)) : wps Φ (.gfrz 13) (r0 :: r1 :: r2 :: r3 :: r4 :: r5 :: r6 :: r7 :: r8 :: r9 :: r10 :: r11 :: r12 :: some (.ref p) :: ρ) S ⟨nx, rt, bk, ct, xc⟩ := ⟨p, ws, rfl, h1, h⟩
theorem s_gf14 {nx bk ct : Env → Sto → Prop} {rt : WK} {xc : XC} {r0 r1 r2 r3 r4 r5 r6 r7 r8 r9 r10 r11 r12 r13 : Option W} {p : Addr} {ws : List W} (h1 : S p = some (.lst ws)) (h : nx (r0 :: r1 :: r2 :: r3 :: r4 :: r5 :: r6 :: r7 :: r8 :: r9 :: r10 :: r11 :: r12 :: r13 :: some (.lst ws) :: ρ) (sdel S p)) : wps Φ (.gfrz 14) (r0 :: r1 :: r2 :: r3 :: r4 :: r5 :: r6 :: r7 :: r8 :: r9 :: r10 :: r11 :: r12 :: r13 :: some (.ref p) :: ρ) S ⟨nx, rt, bk, ct, xc⟩ := ⟨p, ws, rfl, h1, h⟩
theorem s_gf15 {nx bk ct : Env → Sto → Prop} {rt : WK} {xc : XC} {r0 r1 r2 r3 r4 r5 r6 r7 r8 r9 r10 r11 r12 r13 r14 : Option W} {p : Addr} {ws : List W} (h1 : S p = some (.lst ws)) (h : nx (r0 :: r1 :: r2 :: r3 :: r4 :: r5 :: r6 :: r7 :: r8 :: r9 :: r10 :: r11 :: r12 :: r13 :: r14 :: some (.lst ws) :: ρ) (sdel S p)) : wps Φ (.gfrz 15) (r0 :: r1 :: r2 :: r3 :: r4 :: r5 :: r6 :: r7 :: r8 :: r9 :: r10 :: r11 :: r12 :: r13 :: r14 :: some (.ref p) :: ρ) S ⟨nx, rt, bk, ct, xc⟩ := ⟨p, ws, rfl, h1, h⟩
theorem s_gf16 {nx bk ct : Env → Sto → Prop} {rt : WK} {xc : XC} {r0 r1 r2 r3 r4 r5 r6 r7 r8 r9 r10 r11 r12 r13 r14 r15 : Option W} {p : Addr} {ws : List W} (h1 : S p = some (.lst ws)) (h : nx (r0 :: r1 :: r2 :: r3 :: r4 :: r5 :: r6 :: r7 :: r8 :: r9 :: r10 :: r11 :: r12 :: r13 :: r14 :: r15 :: some (.lst ws) :: ρ) (sdel S p)) : wps Φ (.gfrz 16) (r0 :: r1 :: r2 :: r3 :: r4 :: r5 :: r6 :: r7 :: r8 :: r9 :: r10 :: r11 :: r12 :: r13 :: r14 :: r15 :: some (.ref p) :: ρ) S ⟨nx, rt, bk, ct, xc⟩ := ⟨p, ws, rfl, h1, h⟩
theorem s_gf17 {nx bk ct : Env → Sto → Prop} {rt : WK} {xc : XC} {r0 r1 r2 r3 r4 r5 r6 r7 r8 r9 r10 r11 r12 r13 r14 r15 r16 : Option W} {p : Addr} {ws : List W} (h1 : S p = some (.lst ws)) (h : nx (r0 :: r1 :: r2 :: r3 :: r4 :: r5 :: r6 :: r7 :: r8 :: r9 :: r10 :: r11 :: r12 :: r13 :: r14 :: r15 :: r16 :: some (.lst ws) :: ρ) (sdel S p)) : wps Φ (.gfrz 17) (r0 :: r1 :: r2 :: r3 :: r4 :: r5 :: r6 :: r7 :: r8 :: r9 :: r10 :: r11 :: r12 :: r13 :: r14 :: r15 :: r16 :: some (.ref p) :: ρ) S ⟨nx, rt, bk, ct, xc⟩ := ⟨p, ws, rfl, h1, h⟩
theorem s_gf18 {nx bk ct : Env → Sto → Prop} {rt : WK} {xc : XC} {r0 r1 r2 r3 r4 r5 r6 r7 r8 r9 r10 r11 r12 r13 r14 r15 r16 r17 : Option W} {p : Addr} {ws : List W} (h1 : S p = some (.lst ws)) (h : nx (r0 :: r1 :: r2 :: r3 :: r4 :: r5 :: r6 :: r7 :: r8 :: r9 :: r10 :: r11 :: r12 :: r13 :: r14 :: r15 :: r16 :: r17 :: some (.lst ws) :: ρ) (sdel S p)) : wps Φ (.gfrz 18) (r0 :: r1 :: r2 :: r3 :: r4 :: r5 :: r6 :: r7 :: r8 :: r9 :: r10 :: r11 :: r12 :: r13 :: r14 :: r15 :: r16 :: r17 :: some (.ref p) :: ρ) S ⟨nx, rt, bk, ct, xc⟩ := ⟨p, ws, rfl, h1, h⟩
theorem s_gf19 {nx bk ct : Env → Sto → Prop} {rt : WK} {xc : XC} {r0 r1 r2 r3 r4 r5 r6 r7 r8 r9 r10 r11 r12 r13 r14 r15 r16 r17 r18 : Option W} {p : Addr} {ws : List W} (h1 : S p = some (.lst ws)) (h : nx (r0 :: r1 :: r2 :: r3 :: r4 :: r5 :: r6 :: r7 :: r8 :: r9 :: r10 :: r11 :: r12 :: r13 :: r14 :: r15 :: r16 :: r17 :: r18 :: some (.lst ws) :: ρ) (sdel S p)) : wps Φ (.gfrz 19) (r0 :: r1 :: r2 :: r3 :: r4 :: r5 :: r6 :: r7 :: r8 :: r9 :: r10 :: r11 :: r12 :: r13 :: r14 :: r15 :: r16 :: r17 :: r18 :: some (.ref p) :: ρ) S ⟨nx, rt, bk, ct, xc⟩ := ⟨p, ws, rfl, h1, h⟩
theorem e_lc' {live : Bool} {own : List (Str × Nat)} {ρ' : Env} {it t c : CE} (hw : wipeW ρ (own.map (·.2)) = ρ') (h : (wp Φ it).i ρ S (fun src items S1 =>
      wpLc src (wp Φ t).g (wp Φ c).c (fun ρ1 S2 Q1 => (wp Φ e).e ρ1 S2 Q1 XN) ρ' items [] S1 fun ws S2 => mkL live ws S2 Q) X) : (wp Φ (.lc live own t it c e)).e ρ S Q X := by
  subst hw; exact h
theorem u_i {a b : Int} {i : Nat} {sb : Bool} {P : Int → Prop} (q : P (augI sb a b)) : ∃ a' b', W.int a = .int a' ∧ W.int b = .int b' ∧ P (augI sb a' b') := ⟨a, b, rfl, rfl, q⟩
end
theorem sup_swap {S : Sto} {a p : Addr} {x y o : Ob} (h : p ≠ a) : sup (sup (sup S a x) p o) a y = sup (sup S a y) p o := by
  funext b
  unfold sup
  by_cases h1 : b = a
  · subst h1
    rw [if_pos rfl, if_neg h.symm, if_pos rfl]
  · rw [if_neg h1]
    by_cases h2 : b = p
    · rw [if_pos h2, if_pos h2]
    · rw [if_neg h2, if_neg h1, if_neg h2, if_neg h1]
theorem sup_id {S : Sto} {a : Addr} {o : Ob} (h : S a = some o) : sup S a o = S := by
  funext b
  unfold sup
  by_cases e : b = a
  · rw [if_pos e, e, h]
  · rw [if_neg e]
theorem sup_none {S : Sto} {a p : Addr} {o : Ob} (h : p ≠ a) (hs : S p = none) : sup S a o p = none := by rw [sup_ne h]; exact hs
theorem fewer_sup {S : Sto} {p : Addr} {o : Ob} (h : S p = none) : Fewer S (sup S p o) := fun b u e => by
  rw [sup_ne (fun z => by rw [z, h] at e; cases e)]
  exact e
theorem ref_and {R : Prop} {a : Addr} (q : R) : (∃ a', W.ref a = .ref a') ∧ R := ⟨⟨a, rfl⟩, q⟩
theorem u_set {x k : W} {sb : Bool} {a b : Int} {S : Sto} {Q : Sto → Prop} (q : setW x k (.int (augI sb a b)) S Q) : ∃ a' b', W.int a = .int a' ∧ W.int b = .int b' ∧ setW x k (.int (augI sb a' b')) S Q := ⟨a, b, rfl, rfl, q⟩
theorem ite_nd {p : Prop} [Decidable p] {A B : Prop} (h1 : ¬p → A) (h2 : p → B) : if (!decide p) = true then A else B := by
  by_cases h : p
  · rw [if_neg (by simp [h])]; exact h2 h
  · rw [if_pos (by simp [h])]; exact h1 h
theorem rdl_c {S : Sto} {p : Addr} {ws : List W} (h : S p = some (.lst ws)) : rdL S (.ref p) = some ws := by
  show (S p).bind obL = _
  rw [h]; rfl
theorem rdq_c {S : Sto} {p : Addr} {ws : List W} (h : S p = some (.lst ws)) : rdQ S (.ref p) = some ws := rdl_c h
theorem sup_comm {S : Sto} {a p : Addr} {y o : Ob} (h : p ≠ a) : sup (sup S p o) a y = sup (sup S a y) p o := by
  funext b
  unfold sup
  by_cases h1 : b = a
  · subst h1
    rw [if_pos rfl, if_neg h.symm, if_pos rfl]
  · rw [if_neg h1]
    by_cases h2 : b = p
    · rw [if_pos h2, if_pos h2]
    · rw [if_neg h2, if_neg h2, if_neg h1]
theorem sIx_nn {n d : Nat} {v : Int} (h : 0 ≤ v) : HT.sIx n d (some v) = min v.toNat n := by
  have := HT.sIx_nat n d v.toNat
  rwa [Int.toNat_of_nonneg h] at this
theorem ne_new {S : Sto} {a p : Addr} {o : Ob} (h : S a = some o) (hp : S p = none) : p ≠ a := fun e => by
  rw [e, h] at hp
  cases hp
theorem le_and {n : Nat} {R : Prop} (h : n ≤ sizeLine) (q : R) : n ≤ sizeLine ∧ R := ⟨h, q⟩
theorem pow_ok {i j : Int} (h0 : 0 ≤ j) (h1 : j ≤ 1000000) (h2 : i.natAbs < 2 ^ 64) : CPow i j := ⟨h0, h1, h2⟩
theorem cut_map {α : Type} (f : α → W) (zs : List α) (lo hi : Option Int) : cutW (zs.map f) lo hi = ((zs.drop (HT.sIx zs.length 0 lo)).take (HT.sIx zs.length zs.length hi - HT.sIx zs.length 0 lo)).map f := by
  unfold cutW
  rw [List.length_map, List.map_take, List.map_drop]
theorem cut_sub {w : W} {zs : List W} {lo hi : Option Int} (h : w ∈ cutW zs lo hi) : w ∈ zs := List.mem_of_mem_drop (List.mem_of_mem_take h)
theorem cut_len {zs : List W} {lo hi : Option Int} : (cutW zs lo hi).length ≤ zs.length := by
  unfold cutW
  rw [List.length_take, List.length_drop]
  omega
theorem bits {i : Int} {n : Nat} (h : -(2 ^ n : Int) < i ∧ i < 2 ^ n) (hn : 0 < n) : i.natAbs < 2 ^ n := by
  have e : ((2 ^ n : Nat) : Int) = (2 : Int) ^ n := by push_cast; rfl
  omega
/-- a product of numbers below 2^1000 -/
theorem mul_ok {i j : Int} (h1 : -(2 ^ 250 : Int) < i ∧ i < 2 ^ 250) (h2 : -(2 ^ 250 : Int) < j ∧ j < 2 ^ 250) : CMulW i j :=
  wide_mul (bits h1 (by decide)) (bits h2 (by decide)) (by decide) (by decide) (by decide)
theorem div_ok {i j : Int} (h0 : 0 < j) (h : j < 2 ^ 250) : CDivW i j := wide_div h0 (bits ⟨by omega, h⟩ (by decide)) (by decide) (by decide)
end MP

set_option Elab.async false
set_option linter.all false
set_option maxRecDepth 100000
set_option maxHeartbeats 4000000
/-! MP16: loops and comprehensions by invariants; equality of plain values. -/
namespace MP
open PySem PySem.Spec PyProof.Rows L2

/-! ### loops -/
theorem for_inv {src : Sto → Prop} {g : W → Env → Sto → (Env → Sto → Prop) → Prop} {b : WS} {items : List W} {ρ : Env} {S : Sto} {nx bk ct : Env → Sto → Prop} {rt : WK} {xc : XC} (I : Nat → Env → Sto → Prop) (h0 : I 0 ρ S) (hs : ∀ i ρ S, I i ρ S → src S)
    (step : ∀ i w ρ S, items[i]? = some w → I i ρ S → ∀ K : Env → Sto → Prop, (∀ ρ' S', I (i + 1) ρ' S' → K ρ' S') → g w ρ S fun ρ1 S1 => b ρ1 S1 ⟨K, rt, nx, K, xc⟩)
    (hd : ∀ ρ S, I items.length ρ S → nx ρ S) : wpFor src g b items ρ S ⟨nx, rt, bk, ct, xc⟩ := by
  have go : ∀ (m i : Nat) (ρ : Env) (S : Sto), i + m = items.length → I i ρ S → wpFor src g b (items.drop i) ρ S ⟨nx, rt, bk, ct, xc⟩ := by
    intro m
    induction m with
    | zero =>
      intro i ρ S hi h
      rw [List.drop_eq_nil_of_le (by omega)]
      have e : i = items.length := by omega
      subst e
      exact ⟨hs _ _ _ h, hd _ _ h⟩
    | succ m ih =>
      intro i ρ S hi h
      have hl : i < items.length := by omega
      rw [List.drop_eq_getElem_cons hl]
      exact ⟨hs _ _ _ h, step i _ ρ S (List.getElem?_eq_getElem hl) h _ fun ρ' S' h' => ih (i + 1) ρ' S' (by omega) h'⟩
  have := go items.length 0 ρ S (by omega) h0
  rwa [List.drop_zero] at this
/-- .. the items being codes of xs -/
theorem for_map {α : Type} {enc : α → W} {xs : List α} {src : Sto → Prop} {g : W → Env → Sto → (Env → Sto → Prop) → Prop} {b : WS} {ρ : Env} {S : Sto} {nx bk ct : Env → Sto → Prop} {rt : WK} {xc : XC} (I : Nat → Env → Sto → Prop) (h0 : I 0 ρ S) (hs : ∀ i ρ S, I i ρ S → src S)
    (step : ∀ i x ρ S, xs[i]? = some x → I i ρ S → ∀ K : Env → Sto → Prop, (∀ ρ' S', I (i + 1) ρ' S' → K ρ' S') → g (enc x) ρ S fun ρ1 S1 => b ρ1 S1 ⟨K, rt, nx, K, xc⟩)
    (hd : ∀ ρ S, I xs.length ρ S → nx ρ S) : wpFor src g b (xs.map enc) ρ S ⟨nx, rt, bk, ct, xc⟩ := by
  refine for_inv I h0 hs (fun i w ρ S hw h K hK => ?_) (fun ρ S h => hd ρ S (by rw [List.length_map] at h; exact h))
  rw [List.getElem?_map] at hw
  cases e : xs[i]? with
  | none => rw [e] at hw; cases hw
  | some x =>
    rw [e] at hw
    cases hw
    exact step i x ρ S e h K hK
theorem rng_map (lo : Int) (n : Nat) : rngW lo n = (List.range n).map fun (i : Nat) => W.int (lo + i) := rfl
/-- over a range -/
theorem for_rng {lo : Int} {n : Nat} {src : Sto → Prop} {g : W → Env → Sto → (Env → Sto → Prop) → Prop} {b : WS} {ρ : Env} {S : Sto} {nx bk ct : Env → Sto → Prop} {rt : WK} {xc : XC} (I : Nat → Env → Sto → Prop) (h0 : I 0 ρ S) (hs : ∀ i ρ S, I i ρ S → src S)
    (step : ∀ i ρ S, i < n → I i ρ S → ∀ K : Env → Sto → Prop, (∀ ρ' S', I (i + 1) ρ' S' → K ρ' S') → g (.int (lo + i)) ρ S fun ρ1 S1 => b ρ1 S1 ⟨K, rt, nx, K, xc⟩)
    (hd : ∀ ρ S, I n ρ S → nx ρ S) : wpFor src g b (rngW lo n) ρ S ⟨nx, rt, bk, ct, xc⟩ := by
  rw [rng_map]
  refine for_map I h0 hs (fun i x ρ S hx h K hK => ?_) (fun ρ S h => hd ρ S (by rw [List.length_range] at h; exact h))
  have hl : i < n := by
    have := (List.getElem?_eq_some_iff.mp hx).1
    rwa [List.length_range] at this
  rw [List.getElem?_range hl] at hx
  cases hx
  exact step i ρ S hl h K hK
theorem zip_map {α β : Type} (f : α → W) (h : β → W) : ∀ (xs : List α) (ys : List β), zipW (xs.map f) (ys.map h) = (xs.zip ys).map fun p => W.tup [f p.1, h p.2]
  | [], ys => by cases ys <;> rfl
  | x :: xs, [] => rfl
  | x :: xs, y :: ys => by
    show _ :: zipW (xs.map f) (ys.map h) = _
    rw [zip_map f h xs ys]
    rfl
theorem enm_map {α : Type} (f : α → W) : ∀ (xs : List α) (n : Nat), enmW n (xs.map f) = (xs.zipIdx n).map fun p => W.tup [.int (p.2 : Nat), f p.1]
  | [], n => rfl
  | x :: xs, n => by
    show _ :: enmW (n + 1) (xs.map f) = _
    rw [enm_map f xs (n + 1)]
    rfl
/-! ### comprehensions -/
section
variable {src : Sto → Prop} {g : W → Env → Sto → (Env → Sto → Prop) → Prop} {t : Env → Sto → (Bool → Sto → Prop) → Prop} {e : WE} {ρ : Env} {S : Sto} {Q : List W → Sto → Prop}
theorem lc_inv {items : List W} (I : Nat → List W → Sto → Prop) (h0 : I 0 [] S) (hs : ∀ i acc S, I i acc S → src S)
    (step : ∀ i w acc S, items[i]? = some w → I i acc S → ∀ K : List W → Sto → Prop, (∀ acc' S', I (i + 1) acc' S' → K acc' S') → g w ρ S fun ρ1 S1 => t ρ1 S1 fun b S2 =>
      if b = true then e ρ1 S2 (fun y S3 => acc.length < sizeLine ∧ K (acc ++ [y]) S3) XN else K acc S2)
    (hd : ∀ acc S, I items.length acc S → Q acc S) : wpLc src g t (fun ρ1 S2 Q1 => e ρ1 S2 Q1 XN) ρ items [] S Q := by
  have go : ∀ (m i : Nat) (acc : List W) (S : Sto), i + m = items.length → I i acc S → wpLc src g t (fun ρ1 S2 Q1 => e ρ1 S2 Q1 XN) ρ (items.drop i) acc S Q := by
    intro m
    induction m with
    | zero =>
      intro i acc S hi h
      rw [List.drop_eq_nil_of_le (by omega)]
      have e : i = items.length := by omega
      subst e
      exact ⟨hs _ _ _ h, hd _ _ h⟩
    | succ m ih =>
      intro i acc S hi h
      have hl : i < items.length := by omega
      rw [List.drop_eq_getElem_cons hl]
      exact ⟨hs _ _ _ h, step i _ acc S (List.getElem?_eq_getElem hl) h (fun acc' S' => wpLc src g t (fun ρ1 S2 Q1 => e ρ1 S2 Q1 XN) ρ (items.drop (i + 1)) acc' S' Q) fun acc' S' h' => ih (i + 1) acc' S' (by omega) h'⟩
  have := go items.length 0 [] S (by omega) h0
  rwa [List.drop_zero] at this
/-- the store stays; p: the condition, f: the element -/
theorem lc_fm {α : Type} {enc : α → W} {xs : List α} (p : α → Bool) (f : α → W) (hs : src S) (hl : xs.length ≤ sizeLine)
    (step : ∀ x, x ∈ xs → ∀ (K : WK) (K2 : Sto → Prop), (p x = true → K (f x) S) → (p x = false → K2 S) → g (enc x) ρ S fun ρ1 S1 => t ρ1 S1 fun b S2 => if b = true then e ρ1 S2 K XN else K2 S2)
    (hd : Q ((xs.filter p).map f) S) : wpLc src g t (fun ρ1 S2 Q1 => e ρ1 S2 Q1 XN) ρ (xs.map enc) [] S Q := by
  refine lc_inv (fun i acc S1 => S1 = S ∧ acc = ((xs.take i).filter p).map f) ⟨rfl, rfl⟩ (fun i acc S1 h => h.1 ▸ hs) (fun i w acc S1 hw h K hK => ?_) (fun acc S1 h => ?_)
  · obtain ⟨rfl, rfl⟩ := h
    rw [List.getElem?_map] at hw
    cases ex : xs[i]? with
    | none => rw [ex] at hw; cases hw
    | some x =>
      rw [ex] at hw
      cases hw
      have hi : i < xs.length := (List.getElem?_eq_some_iff.mp ex).1
      refine step x (List.mem_of_getElem? ex) (fun y S3 => (((xs.take i).filter p).map f).length < sizeLine ∧ K (((xs.take i).filter p).map f ++ [y]) S3) (fun S2 => K (((xs.take i).filter p).map f) S2) (fun hp => ⟨?_, hK _ _ ⟨rfl, ?_⟩⟩) (fun hp => hK _ _ ⟨rfl, ?_⟩)
      · rw [List.length_map]
        have h1 := List.length_filter_le p (xs.take i)
        rw [List.length_take] at h1
        omega
      · rw [List.take_add_one, ex, List.filter_append, List.map_append]
        simp [hp]
      · rw [List.take_add_one, ex, List.filter_append, List.map_append]
        simp [hp]
  · obtain ⟨rfl, rfl⟩ := h
    rw [List.length_map, List.take_length]
    exact hd
/-- no condition -/
theorem lc_mp {α : Type} {enc : α → W} {xs : List α} {Φ : Nat → Spec} (f : α → W) (hs : src S) (hl : xs.length ≤ sizeLine)
    (step : ∀ x, x ∈ xs → ∀ (K : WK), K (f x) S → g (enc x) ρ S fun ρ1 S1 => e ρ1 S1 K XN)
    (hd : Q (xs.map f) S) : wpLc src g (wp Φ .nil).c (fun ρ1 S2 Q1 => e ρ1 S2 Q1 XN) ρ (xs.map enc) [] S Q := by
  refine lc_fm (fun _ => true) f hs hl (fun x hx K K2 h1 _ => ?_) (by rw [List.filter_eq_self.mpr (fun _ _ => rfl)]; exact hd)
  exact step x hx K (h1 rfl)
end
/-! ### equality -/
inductive Pln : Nat → W → Prop
  | non (n : Nat) : Pln n .non
  | int (n : Nat) (i : Int) : Pln n (.int i)
  | str (n : Nat) (x : Str) : (PyData.str x).canLay0 = true → Pln n (.str x)
  | tup (n : Nat) (ws : List W) : (∀ w ∈ ws, Pln n w) → Pln (n + 1) (.tup ws)
  | lst (n : Nat) (ws : List W) : (∀ w ∈ ws, Pln n w) → Pln (n + 1) (.lst ws)
theorem VwL.of {S : Sto} : ∀ {ws : List W}, (∀ w ∈ ws, Vw S w (datW w)) → VwL S ws (datL ws)
  | [], _ => .nil
  | w :: ws, h => .cons (h w (by simp)) (VwL.of fun u hu => h u (by simp [hu]))
theorem Pln.vw {S : Sto} {n : Nat} {w : W} (h : Pln n w) : Vw S w (datW w) := by
  induction h with
  | non => exact .non
  | int => exact .int _
  | str => exact .str _
  | tup n ws _ ih => exact .tup (VwL.of ih)
  | lst n ws _ ih => exact .lst (VwL.of ih)
theorem can_all : ∀ {ws : List W}, (∀ w ∈ ws, (datW w).canLay0 = true) → PyData.canLayAll0 (datL ws) = true
  | [], _ => rfl
  | w :: ws, h => by
    show ((datW w).canLay0 && PyData.canLayAll0 (datL ws)) = true
    rw [h w (by simp), can_all fun u hu => h u (by simp [hu])]
    rfl
theorem Pln.can {n : Nat} {w : W} (h : Pln n w) : (datW w).canLay0 = true := by
  induction h with
  | non => rfl
  | int => rfl
  | str n x h => exact h
  | tup n ws _ ih => exact can_all ih
  | lst n ws _ ih => exact can_all ih
theorem dep_all {n : Nat} : ∀ {ws : List W}, (∀ w ∈ ws, (datW w).depth ≤ n) → PyData.depthAll (datL ws) ≤ n
  | [], _ => Nat.zero_le _
  | w :: ws, h => by
    show max (datW w).depth (PyData.depthAll (datL ws)) ≤ n
    have h1 := h w (by simp)
    have h2 := dep_all (ws := ws) fun u hu => h u (by simp [hu])
    omega
theorem Pln.dep {n : Nat} {w : W} (h : Pln n w) : (datW w).depth ≤ n := by
  induction h with
  | non => exact Nat.zero_le _
  | int => exact Nat.zero_le _
  | str n x h => exact Nat.zero_le _
  | tup n ws _ ih => exact Nat.succ_le_succ (dep_all ih)
  | lst n ws _ ih => exact Nat.succ_le_succ (dep_all ih)
theorem Pln.shaped {n : Nat} {w : W} (h : Pln n w) (hn : n ≤ 64) : SeqAt.shaped (datW w) = true := by
  show ((datW w).canLay0 && decide ((datW w).depth ≤ 64)) = true
  rw [h.can, decide_eq_true (Nat.le_trans h.dep hn)]
  rfl
theorem eqv_all : ∀ {xs ys : List W}, (∀ x ∈ xs, ∀ y ∈ ys, (PyData.eqv (datW x) (datW y) = true ↔ x = y)) → (PyData.eqvAll (datL xs) (datL ys) = true ↔ xs = ys)
  | [], [], _ => ⟨fun _ => rfl, fun _ => rfl⟩
  | [], y :: ys, _ => ⟨fun h => (by cases h), fun h => (by cases h)⟩
  | x :: xs, [], _ => ⟨fun h => (by cases h), fun h => (by cases h)⟩
  | x :: xs, y :: ys, h => by
    show (PyData.eqv (datW x) (datW y) && PyData.eqvAll (datL xs) (datL ys)) = true ↔ _
    rw [Bool.and_eq_true, h x (by simp) y (by simp), eqv_all (xs := xs) (ys := ys) fun u hu v hv => h u (by simp [hu]) v (by simp [hv])]
    constructor
    · rintro ⟨rfl, rfl⟩; rfl
    · intro z; cases z; exact ⟨rfl, rfl⟩
theorem Pln.eqv {n : Nat} {x : W} (hx : Pln n x) : ∀ {m : Nat} {y : W}, Pln m y → (PyData.eqv (datW x) (datW y) = true ↔ x = y) := by
  induction hx with
  | non => intro m y hy; cases hy <;> exact ⟨fun h => (by cases h; try rfl), fun h => (by cases h; try rfl)⟩
  | int n i =>
    intro m y hy
    cases hy with
    | int m j =>
      show ((i == j) = true) ↔ _
      rw [beq_iff_eq]
      exact ⟨fun h => by rw [h], fun h => by cases h; rfl⟩
    | _ => exact ⟨fun h => (by cases h), fun h => (by cases h)⟩
  | str n a ha =>
    intro m y hy
    cases hy with
    | str m b =>
      show ((a == b) = true) ↔ _
      rw [beq_iff_eq]
      exact ⟨fun h => by rw [h], fun h => by cases h; rfl⟩
    | _ => exact ⟨fun h => (by cases h), fun h => (by cases h)⟩
  | tup n ws h1 ih =>
    intro m y hy
    cases hy with
    | tup m us h2 =>
      have := eqv_all (xs := ws) (ys := us) fun u hu v hv => ih u hu (h2 v hv)
      show (PyData.eqvAll (datL ws) (datL us) = true) ↔ _
      rw [this]
      exact ⟨fun h => by rw [h], fun h => by cases h; rfl⟩
    | _ => exact ⟨fun h => (by cases h), fun h => (by cases h)⟩
  | lst n ws h1 ih =>
    intro m y hy
    cases hy with
    | lst m us h2 =>
      have := eqv_all (xs := ws) (ys := us) fun u hu v hv => ih u hu (h2 v hv)
      show (PyData.eqvAll (datL ws) (datL us) = true) ↔ _
      rw [this]
      exact ⟨fun h => by rw [h], fun h => by cases h; rfl⟩
    | _ => exact ⟨fun h => (by cases h), fun h => (by cases h)⟩
section
variable {n m : Nat} {x y : W} {S : Sto} {Q : Bool → Prop} {a : Addr} {ws : List W}
theorem eq_p (hx : Pln n x) (hy : Pln m y) (q : ∀ b : Bool, (b = true ↔ x = y) → Q b) (hn : n ≤ 64 := by decide) (hm : m ≤ 64 := by decide) : cmpW .Eq x y S Q := by
  have h : eqWk x y S Q := ⟨_, _, hx.vw, hy.vw, hx.shaped hn, hy.shaped hm, q _ (hx.eqv hy)⟩
  cases x <;> cases y <;> exact h
theorem ne_p (hx : Pln n x) (hy : Pln m y) (q : ∀ b : Bool, (b = true ↔ x ≠ y) → Q b) (hn : n ≤ 64 := by decide) (hm : m ≤ 64 := by decide) : cmpW .NotEq x y S Q := by
  have h : eqWk x y S fun b => Q !b := ⟨_, _, hx.vw, hy.vw, hx.shaped hn, hy.shaped hm, q _ (by
    have := hx.eqv hy
    rw [Bool.not_eq_true', ← Bool.not_eq_true, this])⟩
  cases x <;> cases y <;> exact h
/-- the left one a live list -/
theorem eq_r (ha : S a = some (.lst ws)) (hx : Pln n (.lst ws)) (hy : Pln m y) (q : ∀ b : Bool, (b = true ↔ W.lst ws = y) → Q b) (hn : n ≤ 64 := by decide) (hm : m ≤ 64 := by decide) : cmpW .Eq (.ref a) y S Q := by
  have h : eqWk (.ref a) y S Q := ⟨datW (.lst ws), _, .ref (by rw [ha]; rfl) (by cases (hx.vw (S := S)) with | lst h => exact h), hy.vw, hx.shaped hn, hy.shaped hm, q _ (hx.eqv hy)⟩
  cases y <;> exact h
end
theorem pln_map {α : Type} {f : α → W} {xs : List α} {n : Nat} (h : ∀ x ∈ xs, Pln n (f x)) : Pln (n + 1) (.lst (xs.map f)) := .lst n _ fun w hw => by
  obtain ⟨x, hx, rfl⟩ := List.mem_map.mp hw
  exact h x hx
section
variable {S : Sto} {Q : Bool → Prop} {x : W} {a : Addr}
theorem eq_i {i j : Int} (q : Q (decide (i = j))) : cmpW .Eq (.int i) (.int j) S Q := eq_p (.int 0 i) (.int 0 j) fun b hb => by
  have : b = decide (i = j) := by
    rw [Bool.eq_iff_iff, hb, decide_eq_true_iff]
    exact ⟨fun h => by cases h; rfl, fun h => by rw [h]⟩
  rw [this]; exact q
theorem ne_i {i j : Int} (q : Q (decide (i ≠ j))) : cmpW .NotEq (.int i) (.int j) S Q := ne_p (.int 0 i) (.int 0 j) fun b hb => by
  have : b = decide (i ≠ j) := by
    rw [Bool.eq_iff_iff, hb, decide_eq_true_iff]
    exact ⟨fun h e => h (by rw [e]), fun h e => h (by cases e; rfl)⟩
  rw [this]; exact q
theorem eq_b {i j : Bool} (q : Q (i == j)) : cmpW .Eq (.bl i) (.bl j) S Q := ⟨_, _, .bl i, .bl j, rfl, rfl, q⟩
theorem ne_b {i j : Bool} (q : Q (i != j)) : cmpW .NotEq (.bl i) (.bl j) S Q := ⟨_, _, .bl i, .bl j, rfl, rfl, q⟩
theorem is_b {i j : Bool} (q : Q (decide (i = j))) : cmpW .Is (.bl i) (.bl j) S Q := ⟨_, rfl, q⟩
theorem isn_b {i j : Bool} (q : Q (!decide (i = j))) : cmpW .IsNot (.bl i) (.bl j) S Q := ⟨_, rfl, q⟩
theorem is_n (q : Q (isN x)) : cmpW .Is x .non S Q := ⟨_, (by cases x <;> rfl), q⟩
theorem isn_n (q : Q (!isN x)) : cmpW .IsNot x .non S Q := ⟨_, (by cases x <;> rfl), q⟩
theorem rd_k {kvs : List (Key × W)} {k : Key} (h : S a = some (.dk kvs)) (hk : keyW x = some k) : rdD S (.ref a) x = some (getK kvs k) := by
  show (S a).bind _ = _
  rw [h]
  show (keyW x).map _ = _
  rw [hk]
  rfl
theorem in_dk {kvs : List (Key × W)} {k : Key} (h : S a = some (.dk kvs)) (hk : keyW x = some k) (q : Q (getK kvs k).isSome) : cmpW .In x (.ref a) S Q := by
  have e := rd_k h hk
  cases x with
  | int i => exact .inr ⟨_, e, q⟩
  | str z => exact .inr ⟨_, e, q⟩
  | _ => cases hk
theorem notin_dk {kvs : List (Key × W)} {k : Key} (h : S a = some (.dk kvs)) (hk : keyW x = some k) (q : Q !(getK kvs k).isSome) : cmpW .NotIn x (.ref a) S Q := by
  have e := rd_k h hk
  cases x with
  | int i => exact .inr ⟨_, e, q⟩
  | str z => exact .inr ⟨_, e, q⟩
  | _ => cases hk
end
theorem atI_mem {zs : List W} {i : Int} (h0 : 0 ≤ i) (h : i < zs.length) : ∃ w, atI zs i = some w ∧ w ∈ zs := by
  have hl : i.toNat < zs.length := by omega
  exact ⟨_, atI_int h0 (List.getElem?_eq_getElem hl), List.getElem_mem hl⟩
theorem ix_any {ws : List W} {i : Int} {S : Sto} {Q : WK} (h0 : 0 ≤ i) (h : i < ws.length) (q : ∀ w ∈ ws, Q w S) : idxW (.lst ws) (.int i) S Q := by
  obtain ⟨w, h1, h2⟩ := atI_mem h0 h
  exact ix_l h1 (q w h2)
/-- an index of coded items -/
theorem ix_map {α : Type} {enc : α → W} {xs : List α} {i : Int} {x : α} {S : Sto} {Q : WK} (h0 : 0 ≤ i) (h : xs[i.toNat]? = some x) (q : Q (enc x) S) : idxW (.lst (xs.map enc)) (.int i) S Q :=
  ix_l (atI_int h0 (by rw [List.getElem?_map, h]; rfl)) q
theorem ix_mapc {α : Type} {enc : α → W} {xs : List α} {i : Int} {x : α} {a : Addr} {S : Sto} {Q : WK} (ha : S a = some (.lst (xs.map enc))) (h0 : 0 ≤ i) (h : xs[i.toNat]? = some x) (q : Q (enc x) S) : idxW (.ref a) (.int i) S Q :=
  ix_c ha (atI_int h0 (by rw [List.getElem?_map, h]; rfl)) q
theorem st_map {α : Type} {enc : α → W} {xs : List α} {i : Int} {x : α} {v : W} {a : Addr} {S : Sto} {Q : Sto → Prop} (ha : S a = some (.lst (xs.map enc))) (hv : v = enc x) (h0 : 0 ≤ i) (h : i < xs.length) (q : Q (sup S a (.lst ((xs.set i.toNat x).map enc)))) : setW (.ref a) (.int i) v S Q :=
  st_l (j := i.toNat) ha (ixN_int h0 (by rw [List.length_map]; exact h)) (by rw [hv, ← List.map_set]; exact q)
end MP

set_option Elab.async false
set_option linter.all false
set_option maxRecDepth 100000
set_option maxHeartbeats 4000000
/-! MP17: more short steps: lists by what they read as. -/
namespace MP
open PySem PySem.Spec PyProof.Rows L2
section
variable {S : Sto} {x : W} {zs : List W} {p : Addr} {o : Ob}
theorem ix_rl {i : Int} {w : W} {Q : WK} (h : rdL S x = some zs) (hw : atI zs i = some w) (q : Q w S) : idxW x (.int i) S Q := by
  cases x with
  | lst ws => cases h; exact ⟨w, hw, q⟩
  | ref a => exact .inl ⟨zs, i, w, h, rfl, hw, q⟩
  | _ => cases h
theorem ix_rm {α : Type} {enc : α → W} {xs : List α} {i : Int} {y : α} {Q : WK} (h : rdL S x = some (xs.map enc)) (h0 : 0 ≤ i) (hy : xs[i.toNat]? = some y) (q : Q (enc y) S) : idxW x (.int i) S Q :=
  ix_rl h (atI_int h0 (by rw [List.getElem?_map, hy]; rfl)) q
theorem rdl_new (h : rdL S x = some zs) (hp : S p = none) : rdL (sup S p o) x = some zs := by
  cases x with
  | ref a =>
    have : a ≠ p := fun e => by
      subst e
      have h : (S a).bind obL = some zs := h
      rw [hp] at h; cases h
    show (sup S p o a).bind obL = _
    rw [sup_ne this]; exact h
  | lst ws => exact h
  | _ => cases h
theorem rdl_put (h : rdL S x = some zs) (hp : x ≠ .ref p) : rdL (sup S p o) x = some zs := by
  cases x with
  | ref a =>
    have : a ≠ p := fun e => hp (by rw [e])
    show (sup S p o a).bind obL = _
    rw [sup_ne this]; exact h
  | lst ws => exact h
  | _ => cases h
theorem rdi_l (h : rdL S x = some zs) : rdI S x = some zs := by
  cases x with
  | ref a => exact h
  | lst ws => exact h
  | _ => cases h
theorem rdq_l (h : rdL S x = some zs) : rdQ S x = some zs := by
  cases x with
  | ref a => exact h
  | lst ws => exact h
  | _ => cases h
theorem ref_ne_new (h : rdL S x = some zs) (hp : S p = none) : x ≠ .ref p := fun e => by
  subst e
  have h : (S p).bind obL = some zs := h
  rw [hp] at h; cases h
end
theorem le_line {n : Nat} (h : n ≤ 10000) : n ≤ sizeLine := Nat.le_trans h (by decide)
theorem lt_line {n : Nat} (h : n ≤ 10000) : n < sizeLine := Nat.lt_of_le_of_lt h (by decide)
theorem len_ok {x : W} {zs : List W} {S : Sto} {Q : WK} {live : Bool} (h : rdL S x = some zs) (q : Q (.int zs.length) S) : bltW live .len [x] S Q := by
  cases x with
  | ref a => exact .inl ⟨zs, h, q⟩
  | lst ws => exact .inl ⟨zs, h, q⟩
  | _ => cases h
theorem ng {i : Int} {P : Int → Prop} (h : P i) : ∃ i', W.int i = .int i' ∧ P i' := ⟨i, rfl, h⟩
section
variable {S : Sto} {P : Bool → Prop}
theorem tq_bl {b : Bool} (h : P b) : ∃ b', truW S (.bl b) = some b' ∧ P b' := ⟨_, rfl, h⟩
theorem tq_int {i : Int} (h : P (i != 0)) : ∃ b', truW S (.int i) = some b' ∧ P b' := ⟨_, rfl, h⟩
theorem tq_non (h : P false) : ∃ b', truW S .non = some b' ∧ P b' := ⟨_, rfl, h⟩
theorem tq_lst {ws : List W} (h : P (!ws.isEmpty)) : ∃ b', truW S (.lst ws) = some b' ∧ P b' := ⟨_, rfl, h⟩
theorem tq_tup {ws : List W} (h : P (!ws.isEmpty)) : ∃ b', truW S (.tup ws) = some b' ∧ P b' := ⟨_, rfl, h⟩
end
section
variable {α β : Type} {enc : α → W} {enc2 : β → W} {xs : List α} {ys : List β} {src : Sto → Prop} {g : W → Env → Sto → (Env → Sto → Prop) → Prop} {b : WS} {ρ : Env} {S : Sto} {nx bk ct : Env → Sto → Prop} {rt : WK} {xc : XC}
/-- over enumerate -/
theorem for_enm (I : Nat → Env → Sto → Prop) (h0 : I 0 ρ S) (hs : ∀ i ρ S, I i ρ S → src S)
    (step : ∀ i x ρ S, xs[i]? = some x → I i ρ S → ∀ K : Env → Sto → Prop, (∀ ρ' S', I (i + 1) ρ' S' → K ρ' S') → g (.tup [.int (i : Nat), enc x]) ρ S fun ρ1 S1 => b ρ1 S1 ⟨K, rt, nx, K, xc⟩)
    (hd : ∀ ρ S, I xs.length ρ S → nx ρ S) : wpFor src g b (enmW 0 (xs.map enc)) ρ S ⟨nx, rt, bk, ct, xc⟩ := by
  rw [enm_map]
  refine for_map I h0 hs (fun i x ρ S hx h K hK => ?_) (fun ρ S h => hd ρ S (by rw [List.length_zipIdx] at h; exact h))
  rw [List.getElem?_zipIdx] at hx
  cases ex : xs[i]? with
  | none => rw [ex] at hx; cases hx
  | some a =>
    rw [ex] at hx
    have e : (a, 0 + i) = x := by simpa using hx
    subst e
    have := step i a ρ S ex h K hK
    rw [Nat.zero_add]
    exact this
/-- over zip -/
theorem for_zip (I : Nat → Env → Sto → Prop) (h0 : I 0 ρ S) (hs : ∀ i ρ S, I i ρ S → src S)
    (step : ∀ i x y ρ S, xs[i]? = some x → ys[i]? = some y → I i ρ S → ∀ K : Env → Sto → Prop, (∀ ρ' S', I (i + 1) ρ' S' → K ρ' S') → g (.tup [enc x, enc2 y]) ρ S fun ρ1 S1 => b ρ1 S1 ⟨K, rt, nx, K, xc⟩)
    (hd : ∀ ρ S, I (min xs.length ys.length) ρ S → nx ρ S) : wpFor src g b (zipW (xs.map enc) (ys.map enc2)) ρ S ⟨nx, rt, bk, ct, xc⟩ := by
  rw [zip_map]
  refine for_map I h0 hs (fun i x ρ S hx h K hK => ?_) (fun ρ S h => hd ρ S (by rw [List.length_zip] at h; exact h))
  obtain ⟨a, c⟩ := x
  rw [List.getElem?_zip_eq_some] at hx
  exact step i a c ρ S hx.1 hx.2 h K hK
end
end MP
namespace MP
open PySem PySem.Spec PyProof.Rows L2
theorem ne_r {n m : Nat} {y : W} {S : Sto} {Q : Bool → Prop} {a : Addr} {ws : List W} (ha : S a = some (.lst ws)) (hx : Pln n (.lst ws)) (hy : Pln m y) (q : ∀ b : Bool, (b = true ↔ W.lst ws ≠ y) → Q b) (hn : n ≤ 64 := by decide) (hm : m ≤ 64 := by decide) : cmpW .NotEq (.ref a) y S Q := by
  have h : eqWk (.ref a) y S fun b => Q !b := ⟨datW (.lst ws), _, .ref (by rw [ha]; rfl) (by cases (hx.vw (S := S)) with | lst h => exact h), hy.vw, hx.shaped hn, hy.shaped hm, q _ (by
    have := hx.eqv hy
    rw [Bool.not_eq_true', ← Bool.not_eq_true, this])⟩
  cases y <;> exact h
/-- equality by what is read -/
theorem eq_vw {n m : Nat} {x y u w : W} {S : Sto} {Q : Bool → Prop} (hx : Vw S x (datW u)) (hy : Vw S y (datW w)) (hu : Pln n u) (hw : Pln m w) (q : ∀ b : Bool, (b = true ↔ u = w) → Q b) (hn : n ≤ 64 := by decide) (hm : m ≤ 64 := by decide) : cmpW .Eq x y S Q := by
  have h : eqWk x y S Q := ⟨_, _, hx, hy, hu.shaped hn, hw.shaped hm, q _ (hu.eqv hw)⟩
  cases x <;> cases y <;> exact h
theorem ne_vw {n m : Nat} {x y u w : W} {S : Sto} {Q : Bool → Prop} (hx : Vw S x (datW u)) (hy : Vw S y (datW w)) (hu : Pln n u) (hw : Pln m w) (q : ∀ b : Bool, (b = true ↔ u ≠ w) → Q b) (hn : n ≤ 64 := by decide) (hm : m ≤ 64 := by decide) : cmpW .NotEq x y S Q := by
  have h : eqWk x y S fun b => Q !b := ⟨_, _, hx, hy, hu.shaped hn, hw.shaped hm, q _ (by
    have := hu.eqv hw
    rw [Bool.not_eq_true', ← Bool.not_eq_true, this])⟩
  cases x <;> cases y <;> exact h
theorem vw_cell {n : Nat} {S : Sto} {a : Addr} {ws : List W} (ha : S a = some (.lst ws)) (h : Pln n (.lst ws)) : Vw S (.ref a) (datW (.lst ws)) :=
  .ref (by rw [ha]; rfl) (by cases (h.vw (S := S)) with | lst h => exact h)
theorem b_of {b : Bool} {p : Prop} [Decidable p] (h : b = true ↔ p) : b = decide p := by
  rw [Bool.eq_iff_iff, h, decide_eq_true_iff]
theorem b_t {b : Bool} {p : Prop} (h : b = true ↔ p) (hp : p) : b = true := h.mpr hp
theorem b_f {b : Bool} {p : Prop} (h : b = true ↔ p) (hp : ¬ p) : b = false := by
  cases b with
  | false => rfl
  | true => exact absurd (h.mp rfl) hp
end MP
namespace MP
theorem iteF' {c : Bool} {A B : Prop} (hc : c = false) (h : B) : if c = true then A else B := by rw [hc]; exact h
theorem iteT' {c : Bool} {A B : Prop} (hc : c = true) (h : A) : if c = true then A else B := by rw [hc]; exact h
end MP

set_option Elab.async false
set_option linter.all false
set_option maxRecDepth 100000
set_option maxHeartbeats 4000000
/-! MP18: short steps for what came last: list(zip), slices by a step, sorted(set), dict(pairs), index, two lists frozen. -/
namespace MP
open PySem PySem.Spec PyProof.Rows L2
section
variable {Φ : Nat → Spec} {ρ : Env} {S : Sto} {Q : WK} {X : XC} {a b : CE} {live : Bool} {x y : W}
theorem e_lzip (h : (wp Φ a).e ρ S (fun x S1 => (wp Φ b).e ρ S1 (fun y S2 => ∃ xs ys, rdL S2 x = some xs ∧ rdL S2 y = some ys ∧ mkL live (zipW xs ys) S2 Q) X) X) : (wp Φ (.lzip live a b)).e ρ S Q X := h
theorem e_stp (h : (wp Φ a).e ρ S (fun x S1 => (wp Φ b).e ρ S1 (fun y S2 => ∃ ws k, rdL S2 x = some ws ∧ y = .int k ∧ ((k = 1 ∧ mkL live ws S2 Q) ∨ (k = -1 ∧ mkL live ws.reverse S2 Q))) X) X) : (wp Φ (.stp live a b)).e ρ S Q X := h
theorem e_sset (h : (wp Φ a).e ρ S (fun x S1 => ∃ ws ks, rdL S1 x = some ws ∧ pairsW ws = some ks ∧ ks.length < 64 ∧ (∀ p ∈ ks, (0 ≤ p.1 ∧ p.1 < 64) ∧ (0 ≤ p.2 ∧ p.2 < 64)) ∧
      ∀ ks' : List (Int × Int), ks'.Pairwise lexP → (∀ p, p ∈ ks' ↔ p ∈ ks) → mkL live (ks'.map pairW) S1 Q) X) : (wp Φ (.sset live a)).e ρ S Q X := h
theorem b_mulS0 {z : Str} {k : Int} (hk : k = 0) (q : Q (.str Str.empty) S) : bopW live .mul (.str z) (.int k) S Q := .inl ⟨hk, q⟩
theorem b_mulS1 {z : Str} {k : Int} (hk : k = 1) (q : Q (.str z) S) : bopW live .mul (.str z) (.int k) S Q := .inr ⟨hk, q⟩
/-- unpacking a list -/
theorem g_lst {t : CE} {w : W} {ws : List W} {Q : Env → Sto → Prop} (hw : rdL S w = some ws) (hl : ws.length = cntC t) (h : (wp Φ t).gs ws ρ S Q) : (wp Φ (.ttup t)).g w ρ S Q := ⟨ws, rdq_l hw, hl, h⟩
theorem rc_l {R : Prop} {m : Mth} {ws : List W} (hm : m.T = "list" := by rfl) (q : R) : rcvW m (.lst ws) S ∧ R := by
  refine ⟨?_, q⟩
  unfold rcvW
  rw [hm]
  exact trivial
theorem m_index {ws : List W} {d : PyData} {ds : List PyData} {j : Nat} {z : PyData} (hx : rdL S x = some ws) (hv : VwL S ws ds) (hd : Vw S y d) (s1 : SeqAt.shaped (.list ds) = true) (s2 : SeqAt.shaped d = true) (hz : ds[j]? = some z) (e : PyData.eqv z d = true)
    (hno : ∀ (m : Nat) (z' : PyData), m < j → ds[m]? = some z' → PyData.eqv z' d = false) (q : Q (.int (j : Nat)) S) : mthW .index x [y] S Q := by
  cases x <;> first | (cases hx; done) | exact ⟨ws, d, ds, j, z, hx, hv, hd, s1, s2, hz, e, hno, q⟩
/-- .. of plain values that are all unlike -/
theorem m_indexP {ws : List W} {n : Nat} {j : Nat} (hx : rdL S x = some ws) (hp : ∀ w ∈ ws, Pln n w) (hn : n ≤ 60) (hj : ws[j]? = some y) (nd : ws.Nodup) (q : Q (.int (j : Nat)) S) : mthW .index x [y] S Q := by
  have hy := hp y (List.mem_of_getElem? hj)
  have dat : ∀ {us : List W} {i : Nat}, (datL us)[i]? = (us[i]?).map datW := by
    intro us
    induction us with
    | nil => intro i; simp [datL]
    | cons u us ih =>
      intro i
      cases i with
      | zero => rfl
      | succ i => exact ih
  have sh : Pln (n + 1) (.lst ws) := .lst n ws hp
  refine m_index (ds := datL ws) (d := datW y) (z := datW y) hx (VwL.of fun w hw => (hp w hw).vw) hy.vw (sh.shaped (by omega)) (hy.shaped (by omega)) (by rw [dat, hj]; rfl) ((hy.eqv hy).mpr rfl) (fun m z' hm hz => ?_) q
  rw [dat] at hz
  cases e : ws[m]? with
  | none => rw [e] at hz; cases hz
  | some u =>
    rw [e] at hz
    cases hz
    have hu := hp u (List.mem_of_getElem? e)
    refine b_f (hu.eqv hy) fun z => ?_
    subst z
    have h1 := (List.getElem?_eq_some_iff.mp e)
    have h2 := (List.getElem?_eq_some_iff.mp hj)
    exact List.pairwise_iff_getElem.mp nd m j h1.1 h2.1 hm (h1.2.trans h2.2.symm)
theorem l_dictK {ws : List W} {kvs : List (Key × W)} (h : rdL S x = some ws) (hp : prK ws = some kvs) (q : ∀ p, S p = none → Q (.ref p) (sup S p (.dk (putsW [] kvs)))) : bltW live .dictK [x] S Q := ⟨ws, kvs, h, hp, q⟩
theorem l_dictT {ws : List W} {kvs : List (List Key × W)} (h : rdL S x = some ws) (hp : prT ws = some kvs) (q : ∀ p, S p = none → Q (.ref p) (sup S p (.dt (putsW [] kvs)))) : bltW live .dictT [x] S Q := ⟨ws, kvs, h, hp, q⟩
theorem l_listK {p : Addr} {kvs : List (Key × W)} (h : S p = some (.dk kvs)) (q : mkL live (kvs.map fun kv => wKey kv.1) S Q) : bltW live .listK [.ref p] S Q := ⟨p, kvs, rfl, h, q⟩
theorem pairs_ok : ∀ ks : List (Int × Int), pairsW (ks.map pairW) = some ks
  | [] => rfl
  | p :: ks => by
    show (pairsW (ks.map pairW)).map _ = _
    rw [pairs_ok ks]
    rfl
/-- strictly in order: the members tell the list -/
theorem lex_eq : ∀ {xs ys : List (Int × Int)}, xs.Pairwise lexP → ys.Pairwise lexP → (∀ p, p ∈ xs ↔ p ∈ ys) → xs = ys
  | [], [], _, _, _ => rfl
  | [], y :: ys, _, _, h => absurd ((h y).mpr (List.mem_cons_self ..)) (by simp)
  | x :: xs, [], _, _, h => absurd ((h x).mp (List.mem_cons_self ..)) (by simp)
  | x :: xs, y :: ys, hx, hy, h => by
    obtain ⟨x1, x2⟩ := List.pairwise_cons.mp hx
    obtain ⟨y1, y2⟩ := List.pairwise_cons.mp hy
    have irr : ∀ p : Int × Int, ¬ lexP p p := fun p z => by rcases z with z | z <;> omega
    have asy : ∀ p q : Int × Int, lexP p q → lexP q p → False := fun p q z w => by
      rcases z with z | z <;> rcases w with w | w <;> omega
    have e : x = y := by
      rcases List.mem_cons.mp ((h x).mp (List.mem_cons_self ..)) with e | hxy
      · exact e
      · rcases List.mem_cons.mp ((h y).mpr (List.mem_cons_self ..)) with e | hyx
        · exact e.symm
        · exact (asy _ _ (x1 y hyx) (y1 x hxy)).elim
    subst e
    rw [lex_eq x2 y2 fun p => ?_]
    constructor
    · intro hp
      rcases List.mem_cons.mp ((h p).mp (List.mem_cons_of_mem _ hp)) with e | hp2
      · subst e; exact (irr _ (x1 _ hp)).elim
      · exact hp2
    · intro hp
      rcases List.mem_cons.mp ((h p).mpr (List.mem_cons_of_mem _ hp)) with e | hp2
      · subst e; exact (irr _ (y1 _ hp)).elim
      · exact hp2
end
theorem s_gfr2 {Φ : Nat → Spec} {ρ : Env} {S : Sto} {nx bk ct : Env → Sto → Prop} {rt : WK} {xc : XC} {i : Nat} {p q : Addr} {xs ys : List W} (h0 : ρ[i]? = some (some (.tup [.ref p, .ref q]))) (h1 : S p = some (.lst xs)) (h2 : S q = some (.lst ys)) (ne : p ≠ q)
    (h : nx (ρ.set i (some (.tup [.lst xs, .lst ys]))) (sdel (sdel S p) q)) : wps Φ (.gfr2 i) ρ S ⟨nx, rt, bk, ct, xc⟩ := ⟨p, q, xs, ys, h0, h1, h2, ne, h⟩
end MP

set_option Elab.async false
set_option linter.all false
set_option maxRecDepth 100000
set_option maxHeartbeats 4000000
/-! NM: texts of small letters. -/
namespace NM
open PySem PySem.Spec PyProof.Rows L2 MP

def low (c : Nat) : Bool := decide (97 ≤ c) && decide (c ≤ 122)
/-- small letters alone, at most n -/
structure Nm (n : Nat) (x : Str) : Prop where
  len : x.length ≤ n
  low : ∀ c ∈ x.cps.toList, low c = true
theorem Nm.mono {n m : Nat} {x : Str} (h : Nm n x) (hm : n ≤ m) : Nm m x := ⟨Nat.le_trans h.len hm, h.low⟩
theorem len_cps {x : Str} : x.length = x.cps.toList.length := by rw [Array.length_toList]; rfl
theorem app_cps (x y : Str) : (x ++ y).cps.toList = x.cps.toList ++ y.cps.toList := by
  show (x.cps ++ y.cps).toList = _
  rw [Array.toList_append]
theorem app_len (x y : Str) : (x ++ y).length = x.length + y.length := by rw [len_cps, app_cps, List.length_append, ← len_cps, ← len_cps]
theorem Nm.app {n m : Nat} {x y : Str} (h : Nm n x) (g : Nm m y) : Nm (n + m) (x ++ y) := ⟨by rw [app_len]; have := h.len; have := g.len; omega, fun c hc => by
  rw [app_cps] at hc
  exact (List.mem_append.mp hc).elim (h.low c) (g.low c)⟩
theorem Nm.nil : Nm 0 Str.empty := ⟨Nat.le_refl _, fun c hc => by cases hc⟩
theorem Nm.one {c : Nat} (h : NM.low c = true) : Nm 1 ⟨#[c]⟩ := ⟨Nat.le_refl _, fun d hd => by
  have : d = c := by simpa using hd
  rw [this]; exact h⟩
theorem Nm.cut {n : Nat} {x : Str} (h : Nm n x) (lo hi : Option Int) : Nm n (cutS x lo hi) := by
  unfold cutS
  refine ⟨?_, fun c hc => h.low c ?_⟩
  · rw [len_cps]
    have := h.len
    rw [len_cps] at this
    simp only [List.length_take, List.length_drop]
    omega
  · have hc' : c ∈ (x.cps.toList.drop (HT.sIx x.length 0 lo)).take (HT.sIx x.length x.length hi - HT.sIx x.length 0 lo) := by simpa using hc
    exact List.mem_of_mem_drop (List.mem_of_mem_take hc')
theorem str_ext {x y : Str} (h : x.cps.toList = y.cps.toList) : x = y := by
  cases x; cases y
  congr 1
  exact Array.toList_inj.mp h
theorem join_nil : ∀ {ss : List Str} {n : Nat}, (∀ x ∈ ss, Nm 1 x) → ss.length ≤ n → Nm n (Txt.join Str.empty ss)
  | ss, n, h, hl => by
    have e : ∀ ss : List Str, (∀ x ∈ ss, Nm 1 x) → Nm ss.length (Str.join Str.empty ss) := by
      intro ss
      induction ss with
      | nil => intro _; exact Nm.nil
      | cons x r ih =>
        intro h
        have hx := h x (List.mem_cons_self ..)
        cases r with
        | nil => exact hx
        | cons y r =>
          have h2 := ih fun z hz => h z (List.mem_cons_of_mem _ hz)
          have h3 := (hx.app Nm.nil).app h2
          rw [show 1 + 0 + (y :: r).length = (x :: y :: r).length by simp only [List.length_cons]; omega] at h3
          exact h3
    have e2 : Txt.join Str.empty ss = Str.join Str.empty ss := by
      first
      | rfl
      | exact PySem.StrLaws.glued_eq_join _ _
    rw [e2]
    exact (e ss h).mono hl
theorem Nm.can {n : Nat} {x : Str} (h : Nm n x) : (PyData.str x).canLay0 = true := by
  show x.cps.all (· < 0x110000) = true
  rw [Array.all_eq_true]
  intro i hi
  have := h.low x.cps[i] (by simp)
  unfold NM.low at this
  simp only [Bool.and_eq_true, decide_eq_true_eq] at this
  simp only [decide_eq_true_eq]
  omega
theorem Nm.pln {n m : Nat} {x : Str} (h : Nm n x) : Pln m (.str x) := .str m x h.can
theorem Nm.line {n : Nat} {x : Str} (h : Nm n x) (hn : n ≤ 10000) : x.length ≤ sizeLine := le_line (Nat.le_trans h.len hn)
/-- the letter at a place of the alphabet -/
def lt (k : Nat) : Str := ⟨#[97 + k]⟩
theorem lt_inj {i j : Nat} (h : lt i = lt j) : i = j := by
  have h2 : (lt i).cps.toList = (lt j).cps.toList := by rw [h]
  have h3 : [97 + i] = [97 + j] := h2
  injection h3 with h3 _
  omega
theorem lt_nm {k : Nat} (h : k < 26) : Nm 1 (lt k) := Nm.one (by unfold NM.low; simp only [Bool.and_eq_true, decide_eq_true_eq]; omega)
theorem abc : ("abcdefghijklmnopqrstuvwxyz" : Str).cps.toList = (List.range 26).map (97 + ·) := by decide +kernel
theorem ix_abc {i : Int} {S : Sto} {Q : WK} (h0 : 0 ≤ i) (h1 : i < 26) (q : Q (.str (lt i.toNat)) S) : idxW (.str "abcdefghijklmnopqrstuvwxyz") (.int i) S Q := by
  refine ⟨by decide +kernel, 97 + i.toNat, atI_int h0 ?_, q⟩
  rw [abc, List.getElem?_map, List.getElem?_range (by omega)]
  rfl
/-- a letter put in at a place: different letters, different texts -/
theorem put_inj {a b x y : Str} (h : a ++ x ++ b = a ++ y ++ b) : x = y := by
  have h2 : (a ++ x ++ b).cps.toList = (a ++ y ++ b).cps.toList := by rw [h]
  rw [app_cps, app_cps, app_cps, app_cps] at h2
  exact str_ext (List.append_cancel_left (List.append_cancel_right h2))
theorem app_emp (x : Str) : x ++ Str.empty = x := str_ext (by rw [app_cps]; exact List.append_nil _)
theorem b_strs {x y : Str} {n m : Nat} {live : Bool} {S : Sto} {Q : WK} (h : Nm n x) (g : Nm m y) (hl : n + m ≤ 10000) (q : Q (.str (x ++ y)) S) : bopW live .add (.str x) (.str y) S Q :=
  ⟨le_line (by have := h.len; have := g.len; omega), q⟩
end NM

set_option Elab.async false
set_option linter.all false
set_option maxRecDepth 100000
set_option maxHeartbeats 4000000
/-! DK: dicts by their pairs; dicts with tuples for keys; short steps. -/
namespace DK
open PySem PySem.Spec PyProof.Rows L2 MP NM
section
variable {κ : Type} [DecidableEq κ] {kvs acc more : List (κ × W)} {k j : κ} {v w : W}
theorem get_nil : getK ([] : List (κ × W)) k = none := rfl
theorem get_cons {p : κ × W} : getK (p :: kvs) k = if p.1 = k then some p.2 else getK kvs k := by
  unfold getK
  rw [List.find?_cons]
  by_cases h : p.1 = k
  · rw [if_pos h, decide_eq_true h]; rfl
  · rw [if_neg h, decide_eq_false h]
theorem get_mem (h : getK kvs k = some v) : (k, v) ∈ kvs := by
  induction kvs with
  | nil => cases h
  | cons p kvs ih =>
    rw [get_cons] at h
    by_cases e : p.1 = k
    · rw [if_pos e] at h
      cases h
      rw [← e]; exact List.mem_cons_self ..
    · rw [if_neg e] at h
      exact List.mem_cons_of_mem _ (ih h)
theorem get_some : (∃ v, getK kvs k = some v) ↔ k ∈ kvs.map (·.1) := by
  induction kvs with
  | nil => exact ⟨fun ⟨_, h⟩ => (by cases h), fun h => (by cases h)⟩
  | cons p kvs ih =>
    rw [get_cons, List.map_cons, List.mem_cons, ← ih]
    by_cases e : p.1 = k
    · rw [if_pos e]; exact ⟨fun _ => .inl e.symm, fun _ => ⟨_, rfl⟩⟩
    · rw [if_neg e]
      exact ⟨fun h => .inr h, fun h => h.elim (fun z => absurd z.symm e) id⟩
theorem get_none : getK kvs k = none ↔ k ∉ kvs.map (·.1) := by
  rw [← get_some]
  cases getK kvs k with
  | none => exact ⟨fun _ ⟨_, h⟩ => (by cases h), fun _ => rfl⟩
  | some v => exact ⟨fun h => (by cases h), fun h => absurd ⟨v, rfl⟩ h⟩
theorem get_of (hn : (kvs.map (·.1)).Nodup) (h : (k, v) ∈ kvs) : getK kvs k = some v := by
  induction kvs with
  | nil => cases h
  | cons p kvs ih =>
    rw [List.map_cons, List.nodup_cons] at hn
    rw [get_cons]
    rcases List.mem_cons.mp h with e | h
    · rw [← e, if_pos rfl]
    · rw [if_neg fun e => hn.1 (by rw [e]; exact List.mem_map.mpr ⟨_, h, rfl⟩)]
      exact ih hn.2 h
theorem any_iff : (kvs.any fun kv => decide (kv.1 = k)) = true ↔ k ∈ kvs.map (·.1) := by
  rw [List.any_eq_true]
  constructor
  · rintro ⟨p, hp, e⟩
    exact List.mem_map.mpr ⟨p, hp, of_decide_eq_true e⟩
  · intro h
    obtain ⟨p, hp, e⟩ := List.mem_map.mp h
    exact ⟨p, hp, decide_eq_true e⟩
theorem get_app : getK (kvs ++ more) k = (getK kvs k).or (getK more k) := by
  induction kvs with
  | nil => rfl
  | cons p kvs ih =>
    rw [List.cons_append, get_cons, get_cons]
    by_cases e : p.1 = k
    · rw [if_pos e, if_pos e]; rfl
    · rw [if_neg e, if_neg e]; exact ih
theorem get_upd : getK (kvs.map fun kv => if kv.1 = k then (kv.1, v) else kv) j = if j = k then (if k ∈ kvs.map (·.1) then some v else none) else getK kvs j := by
  induction kvs with
  | nil =>
    show none = _
    split
    · rw [if_neg (by simp)]
    · rfl
  | cons p kvs ih =>
    rw [List.map_cons, get_cons, get_cons, ih]
    have h1 : (if p.1 = k then (p.1, v) else p).1 = p.1 := by split <;> rfl
    rw [h1]
    by_cases e2 : j = k
    · subst e2
      by_cases e : p.1 = j
      · rw [if_pos e, if_pos rfl, if_pos (show j ∈ (p :: kvs).map (·.1) by rw [← e]; exact List.mem_cons_self ..), if_pos e]
      · rw [if_neg e, if_pos rfl, if_pos rfl]
        have : (j ∈ (p :: kvs).map (·.1)) ↔ j ∈ kvs.map (·.1) := by
          rw [List.map_cons, List.mem_cons]
          exact ⟨fun h => h.elim (fun z => absurd z.symm e) id, .inr⟩
        by_cases h : j ∈ kvs.map (·.1)
        · rw [if_pos h, if_pos (this.mpr h)]
        · rw [if_neg h, if_neg fun z => h (this.mp z)]
    · rw [if_neg e2, if_neg e2]
      by_cases e : p.1 = j
      · rw [if_pos e, if_pos e, if_neg fun z => e2 (e.symm.trans z)]
      · rw [if_neg e, if_neg e]
theorem get_set : getK (setK kvs k v) j = if j = k then some v else getK kvs j := by
  unfold setK
  by_cases h : (kvs.any fun kv => decide (kv.1 = k)) = true
  · rw [if_pos h, get_upd, if_pos (any_iff.mp h)]
  · rw [if_neg h]
    rw [any_iff] at h
    rw [get_app, get_cons, get_nil]
    by_cases e : j = k
    · subst e
      rw [if_pos rfl, if_pos rfl, get_none.mpr h]; rfl
    · rw [if_neg e, if_neg (by show ¬ k = j; exact fun z => e z.symm)]
      cases getK kvs j <;> rfl
theorem set_keys : (setK kvs k v).map (·.1) = if k ∈ kvs.map (·.1) then kvs.map (·.1) else kvs.map (·.1) ++ [k] := by
  unfold setK
  by_cases h : (kvs.any fun kv => decide (kv.1 = k)) = true
  · rw [if_pos h, if_pos (any_iff.mp h), List.map_map]
    refine List.map_congr_left fun p _ => ?_
    show (if p.1 = k then (p.1, v) else p).1 = p.1
    split <;> rfl
  · rw [if_neg h, if_neg (fun z => h (any_iff.mpr z)), List.map_append]
    rfl
theorem set_nodup (hn : (kvs.map (·.1)).Nodup) : ((setK kvs k v).map (·.1)).Nodup := by
  rw [set_keys]
  split
  · exact hn
  · rename_i h
    rw [List.nodup_append]
    exact ⟨hn, by simp, fun a ha b hb e => by
      rw [List.mem_singleton.mp hb] at e
      subst e; exact h ha⟩
theorem set_mem : j ∈ (setK kvs k v).map (·.1) ↔ j ∈ kvs.map (·.1) ∨ j = k := by
  rw [set_keys]
  split
  · rename_i h
    exact ⟨.inl, fun z => z.elim id fun e => e ▸ h⟩
  · rw [List.mem_append, List.mem_singleton]
theorem set_len : (setK kvs k v).length ≤ kvs.length + 1 := by
  have := congrArg List.length (set_keys (kvs := kvs) (k := k) (v := v))
  rw [List.length_map] at this
  rw [this]
  split <;> simp
theorem set_old (h : k ∈ kvs.map (·.1)) : (setK kvs k v).length = kvs.length := by
  have := congrArg List.length (set_keys (kvs := kvs) (k := k) (v := v))
  rw [List.length_map, if_pos h, List.length_map] at this
  exact this
theorem set_new (h : k ∉ kvs.map (·.1)) : setK kvs k v = kvs ++ [(k, v)] := by
  unfold setK
  rw [if_neg fun z => h (any_iff.mp z)]
theorem set_ent {p : κ × W} (h : p ∈ setK kvs k v) : p ∈ kvs ∨ (p.1 = k ∧ p.2 = v) := by
  unfold setK at h
  split at h
  · obtain ⟨q, hq, e⟩ := List.mem_map.mp h
    split at e
    · rename_i e2
      rw [← e]
      exact .inr ⟨e2, rfl⟩
    · rw [← e]; exact .inl hq
  · rcases List.mem_append.mp h with h | h
    · exact .inl h
    · rw [List.mem_singleton.mp h]
      exact .inr ⟨rfl, rfl⟩
/-- pairs put one after another: unlike keys are just put behind -/
theorem puts_new (hn : ((acc ++ more).map (·.1)).Nodup) : putsW acc more = acc ++ more := by
  induction more generalizing acc with
  | nil => rw [List.append_nil]; rfl
  | cons p more ih =>
    show putsW (setK acc p.1 p.2) more = _
    have e : acc ++ p :: more = (acc ++ [p]) ++ more := by rw [List.append_assoc]; rfl
    have h1 : p.1 ∉ acc.map (·.1) := by
      rw [List.map_append, List.map_cons, List.nodup_append] at hn
      exact fun z => hn.2.2 _ z _ (List.mem_cons_self ..) rfl
    rw [set_new h1, e]
    exact ih (by rw [← e]; exact hn)
theorem puts_keys : ∀ {more acc : List (κ × W)}, j ∈ (putsW acc more).map (·.1) ↔ j ∈ acc.map (·.1) ∨ j ∈ more.map (·.1)
  | [], acc => by
    show j ∈ acc.map (·.1) ↔ _
    rw [List.map_nil]
    exact ⟨.inl, fun h => h.elim id fun z => (by cases z)⟩
  | p :: more, acc => by
    show j ∈ (putsW (setK acc p.1 p.2) more).map (·.1) ↔ _
    rw [puts_keys, set_mem, List.map_cons, List.mem_cons, or_assoc]
theorem puts_len : ∀ {more acc : List (κ × W)}, (putsW acc more).length ≤ acc.length + more.length
  | [], acc => Nat.le_refl _
  | p :: more, acc => by
    have h1 := puts_len (more := more) (acc := setK acc p.1 p.2)
    have h2 := set_len (kvs := acc) (k := p.1) (v := p.2)
    show (putsW (setK acc p.1 p.2) more).length ≤ _
    rw [List.length_cons]
    omega
theorem puts_nodup : ∀ {more acc : List (κ × W)}, (acc.map (·.1)).Nodup → ((putsW acc more).map (·.1)).Nodup
  | [], acc, h => h
  | p :: more, acc, h => puts_nodup (more := more) (set_nodup h)
end
/-! ### dicts with tuples for keys -/
section
variable {S : Sto} {a : Addr} {Q : WK} {ws : List W} {kvs : List (List Key × W)} {k : List Key} {v w : W}
theorem rd_t (h : S a = some (.dt kvs)) (hk : keysW ws = some k) : rdD S (.ref a) (.tup ws) = some (getK kvs k) := by
  show (S a).bind _ = _
  rw [h]
  show (keysW ws).map _ = _
  rw [hk]
  rfl
theorem ix_dt (h : S a = some (.dt kvs)) (hk : keysW ws = some k) (hw : getK kvs k = some w) (q : Q w S) : idxW (.ref a) (.tup ws) S Q := .inr ⟨w, by rw [rd_t h hk, hw], q⟩
theorem st_dt {Q : Sto → Prop} (h : S a = some (.dt kvs)) (hk : keysW ws = some k) (hl : kvs.length < sizeLine) (q : Q (sup S a (.dt (setK kvs k v)))) : setW (.ref a) (.tup ws) v S Q := ⟨a, rfl, .inr (.inr ⟨kvs, ws, k, h, rfl, hk, hl, q⟩)⟩
theorem in_dt {Q : Bool → Prop} (h : S a = some (.dt kvs)) (hk : keysW ws = some k) (q : Q (getK kvs k).isSome) : cmpW .In (.tup ws) (.ref a) S Q := .inr ⟨_, rd_t h hk, q⟩
theorem notin_dt {Q : Bool → Prop} (h : S a = some (.dt kvs)) (hk : keysW ws = some k) (q : Q !(getK kvs k).isSome) : cmpW .NotIn (.tup ws) (.ref a) S Q := .inr ⟨_, rd_t h hk, q⟩
theorem keys_s (x : Str) : keysW [.str x] = some [.inr x] := rfl
theorem keys_ss (x y : Str) : keysW [.str x, .str y] = some [.inr x, .inr y] := rfl
theorem keys_sss (x y z : Str) : keysW [.str x, .str y, .str z] = some [.inr x, .inr y, .inr z] := rfl
end
/-! ### comprehensions, turn by turn -/
section
variable {src : Sto → Prop} {g : W → MP.Env → Sto → (MP.Env → Sto → Prop) → Prop} {t : MP.Env → Sto → (Bool → Sto → Prop) → Prop} {e : MP.Env → Sto → WK → Prop} {Φ : Nat → MP.Spec} {ρ : MP.Env} {S : Sto} {Q : List W → Sto → Prop} {x : W} {xs acc : List W}
theorem lc_n (hs : src S) (h : Q acc S) : wpLc src g t e ρ [] acc S Q := ⟨hs, h⟩
theorem lc_c0 (hs : src S) (h : g x ρ S fun ρ1 S1 => e ρ1 S1 (fun y S3 => acc.length < sizeLine ∧ wpLc src g (wp Φ .nil).c e ρ xs (acc ++ [y]) S3 Q)) : wpLc src g (wp Φ .nil).c e ρ (x :: xs) acc S Q := ⟨hs, h⟩
end
/-! ### fewer cells -/
section
variable {S T U : Sto} {a p : Addr} {o u : Ob}
theorem fewer_trans (h : Fewer S T) (g : Fewer T U) : Fewer S U := fun b o e => g b o (h b o e)
theorem fewer_at (h : Fewer S T) (e : S a = some o) : T a = some o := h a o e
/-- a cell that was there, put -/
theorem fewer_put (h : Fewer S T) : Fewer (sup S a o) (sup T a o) := fun b u e => by
  by_cases z : b = a
  · subst z; rw [sup_same] at e ⊢; exact e
  · rw [sup_ne z] at e ⊢; exact h b u e
/-- one more, or other, that S doesn't know -/
theorem fewer_more (h : Fewer S T) (hp : S p = none) : Fewer S (sup T p o) := fun b u e => by
  have z : b ≠ p := fun z => by rw [z, hp] at e; cases e
  rw [sup_ne z]; exact h b u e
theorem fewer_del (h : Fewer S T) (hp : S p = none) : Fewer S (sdel T p) := fun b u e => by
  have z : b ≠ p := fun z => by rw [z, hp] at e; cases e
  rw [sdel_ne z]; exact h b u e
theorem none_sup (hp : S p = none) (h : p ≠ a) : sup S a o p = none := by rw [sup_ne h]; exact hp
end
/-! ### choices out of a written list -/
theorem ix_pick {ws : List W} {P : W → Prop} {i : Int} {S : Sto} {Q : WK} (h0 : 0 ≤ i) (h : i < ws.length) (hp : ∀ w ∈ ws, P w) (q : ∀ w, P w → Q w S) : idxW (.lst ws) (.int i) S Q :=
  ix_any h0 h fun w hw => q w (hp w hw)
end DK

set_option Elab.async false
set_option linter.all false
set_option maxRecDepth 100000
set_option maxHeartbeats 4000000
/-! LD: draws, names and hours of the laws with a dict of draws. -/
namespace LD
open PySem PySem.Spec PyProof.Rows L2 MP NM
local macro_rules
  | `(tactic| contradiction) => `(tactic| first | with_reducible refine d_in ?_ | with_reducible refine s_nil ?_ | with_reducible refine s_seq ?_ | with_reducible refine s_asg ?_ | with_reducible refine s_par ?_ | with_reducible refine s_expr ?_ | with_reducible refine s_ret ?_ | with_reducible refine s_retN ?_ | with_reducible refine s_iff ?_ | with_reducible refine s_fr ?_ | with_reducible refine s_cont ?_ | with_reducible refine s_brk ?_ | with_reducible refine s_pass ?_ | with_reducible refine s_augS ?_ | with_reducible refine e_int ?_ | with_reducible refine e_str ?_ | with_reducible refine e_bool ?_ | with_reducible refine e_none ?_ | with_reducible refine e_bin ?_ | with_reducible refine e_neg ?_ | with_reducible refine e_nt ?_ | with_reducible refine e_cmp ?_ | with_reducible refine e_chain ?_ | with_reducible refine e_an ?_ | with_reducible refine e_or ?_ | with_reducible refine an_1 ?_ | with_reducible refine an_2 ?_ | with_reducible refine or_1 ?_ | with_reducible refine or_2 ?_ | with_reducible refine e_ife ?_ | with_reducible refine e_call ?_ | with_reducible refine e_blt ?_ | with_reducible refine e_mth ?_ | with_reducible refine e_idx ?_ | with_reducible refine e_slc ?_ | with_reducible refine e_rev ?_ | with_reducible refine e_tup ?_ | with_reducible refine e_lst ?_ | with_reducible refine e_dnew ?_ | with_reducible refine e_dct ?_ | with_reducible refine e_isi ?_ | with_reducible refine e_lrg ?_ | with_reducible refine e_lzip ?_ | with_reducible refine e_stp ?_ | with_reducible refine e_sset ?_ | with_reducible refine es_n ?_ | with_reducible refine es_c ?_ | with_reducible refine o_nil ?_ | with_reducible refine o_var ?_ | with_reducible refine o_cst ?_ | with_reducible refine o_bin ?_ | with_reducible refine o_neg ?_ | with_reducible refine o_blt ?_ | with_reducible refine o_call ?_ | with_reducible refine ik ?_ | with_reducible refine ng ?_ | with_reducible refine tq_bl ?_ | with_reducible refine tq_int ?_ | with_reducible refine tq_non ?_ | with_reducible refine tq_lst ?_ | with_reducible refine tq_tup ?_ | with_reducible refine t_var ?_ | with_reducible refine t_call ?_ | with_reducible refine t_blt ?_ | with_reducible refine t_mth ?_ | with_reducible refine t_idx ?_ | with_reducible refine t_isi ?_ | with_reducible refine t_cst ?_ | with_reducible refine t_nt ?_ | with_reducible refine t_cmp ?_ | with_reducible refine t_chain ?_ | with_reducible refine t_an ?_ | with_reducible refine t_or ?_ | with_reducible refine ant_1 ?_ | with_reducible refine ant_2 ?_ | with_reducible refine ort_1 ?_ | with_reducible refine ort_2 ?_ | with_reducible refine tr_bl ?_ | with_reducible refine tr_int ?_ | with_reducible refine tr_lst ?_ | with_reducible refine tr_non ?_ | with_reducible refine c_nil ?_ | with_reducible refine c_one ?_ | with_reducible refine g_sub ?_ | with_reducible refine gs_n ?_ | with_reducible refine gs_c ?_ | with_reducible refine i_seq ?_ | with_reducible refine i_rng1 ?_ | with_reducible refine i_rng2 ?_ | with_reducible refine i_rng3 ?_ | with_reducible refine i_zip ?_ | with_reducible refine i_enm ?_ | with_reducible refine b_add ?_ | with_reducible refine b_sub ?_ | with_reducible refine c_lt ?_ | with_reducible refine c_le ?_ | with_reducible refine c_gt ?_ | with_reducible refine c_ge ?_ | with_reducible refine mk_f ?_ | with_reducible refine ref_and ?_ | with_reducible refine u_set ?_ | with_reducible refine eq_i ?_ | with_reducible refine ne_i ?_ | with_reducible refine eq_b ?_ | with_reducible refine ne_b ?_ | with_reducible refine is_b ?_ | with_reducible refine isn_b ?_ | with_reducible refine is_n ?_ | with_reducible refine isn_n ?_ | with_reducible refine e_v0 ?_ | with_reducible refine g_v0 ?_ | with_reducible refine s_u0 ?_ | with_reducible refine e_v1 ?_ | with_reducible refine g_v1 ?_ | with_reducible refine s_u1 ?_ | with_reducible refine e_v2 ?_ | with_reducible refine g_v2 ?_ | with_reducible refine s_u2 ?_ | with_reducible refine e_v3 ?_ | with_reducible refine g_v3 ?_ | with_reducible refine s_u3 ?_ | with_reducible refine e_v4 ?_ | with_reducible refine g_v4 ?_ | with_reducible refine s_u4 ?_ | with_reducible refine e_v5 ?_ | with_reducible refine g_v5 ?_ | with_reducible refine s_u5 ?_ | with_reducible refine e_v6 ?_ | with_reducible refine g_v6 ?_ | with_reducible refine s_u6 ?_ | with_reducible refine e_v7 ?_ | with_reducible refine g_v7 ?_ | with_reducible refine s_u7 ?_ | with_reducible refine e_v8 ?_ | with_reducible refine g_v8 ?_ | with_reducible refine s_u8 ?_ | with_reducible refine e_v9 ?_ | with_reducible refine g_v9 ?_ | with_reducible refine s_u9 ?_ | with_reducible refine e_v10 ?_ | with_reducible refine g_v10 ?_ | with_reducible refine s_u10 ?_ | with_reducible refine e_v11 ?_ | with_reducible refine g_v11 ?_ | with_reducible refine s_u11 ?_ | with_reducible refine e_v12 ?_ | with_reducible refine g_v12 ?_ | with_reducible refine s_u12 ?_ | with_reducible refine e_v13 ?_ | with_reducible refine g_v13 ?_ | with_reducible refine s_u13 ?_ | with_reducible refine e_v14 ?_ | with_reducible refine g_v14 ?_ | with_reducible refine s_u14 ?_ | with_reducible refine e_v15 ?_ | with_reducible refine g_v15 ?_ | with_reducible refine s_u15 ?_ | with_reducible refine e_v16 ?_ | with_reducible refine g_v16 ?_ | with_reducible refine s_u16 ?_ | with_reducible refine e_v17 ?_ | with_reducible refine g_v17 ?_ | with_reducible refine s_u17 ?_ | with_reducible refine e_v18 ?_ | with_reducible refine g_v18 ?_ | with_reducible refine s_u18 ?_ | with_reducible refine e_v19 ?_ | with_reducible refine g_v19 ?_ | with_reducible refine s_u19 ?_ | ((with_reducible refine e_lc' (ρ' := ?rr) ?hw ?_); (case hw => (dsimp only [wipeW, List.map, List.set]; exact rfl))) | ((with_reducible refine g_tup ?hl ?_); (case hl => exact rfl)) | with_reducible refine b_mod (by first | decide | omega) ?_ | ((with_reducible refine b_pow (pow_ok (by decide) (by decide) (by decide)) ?_); simp only [Int.reduceToNat, Int.reducePow]) | with_reducible refine le_and (by simp only [List.length_cons, List.length_nil]; decide) ?_ | with_reducible refine l_intB ?_ | with_reducible refine l_intI ?_ | with_reducible refine sl_f ?_ | (refine l_len (by exact rfl) (q := ?_); skip) | (refine l_list (by exact rfl) ?_; skip) | (refine ix_t (by exact rfl) ?_; skip))

/-! _law_draw -/
def N_draw : List Str := ["_law_m", "_law_many", "_law_k", "_law_cells", "_law_found"]
def P_draw : List Str := ["_law_m", "_law_many"]
def c_draw : CS :=
  (.seq (.asg (.tnm 2) (.idx (.var 0) (.cst (.str "at")))) (.seq (.asg (.tsub (.var 0) (.cst (.str "at"))) (.bin false .add (.var 2) (.cst (.int 1)))) (.seq (.asg (.tnm 3) (.bin false .add (.idx (.var 0) (.cst (.str "script"))) (.bin false .mul (.lst false (.cons (.cst (.int 0)) .nil)) (.blt .int false (.cons (.cmp .Eq (.idx (.var 0) (.cst (.str "script"))) (.lst false .nil)) .nil))))) (.seq (.asg (.tnm 4) (.bin false .mod (.bin false .mul (.bin false .add (.bin false .add (.bin false .mod (.idx (.var 3) (.bin false .mod (.var 2) (.blt .len false (.cons (.var 3) .nil)))) (.bin false .pow (.cst (.int 10)) (.cst (.int 60)))) (.bin false .mul (.cst (.int 7919)) (.var 2))) (.cst (.int 11))) (.cst (.int 48271))) (.cst (.int 2147483647)))) (.seq (.ret (.bin false .mod (.bin false .fdiv (.bin false .mod (.bin false .mul (.var 4) (.bin false .add (.bin false .mod (.var 4) (.cst (.int 65521))) (.cst (.int 3)))) (.cst (.int 2147483629))) (.cst (.int 8))) (.var 1))) .nil)))))
/-! _law_names -/
def N_names : List Str := ["_law_m", "_law_many", "_law_letters", "_law_first", "_law_frame", "_law_at", "_law_found", "_law_k", "_law_mark"]
def P_names : List Str := ["_law_m", "_law_many"]
def c_names (i_draw : Nat) : CS :=
  (.seq (.asg (.tnm 2) (.cst (.str "abcdefghijklmnopqrstuvwxyz"))) (.seq (.asg (.tnm 3) (.call i_draw (.cons (.var 0) (.cons (.cst (.int 26)) .nil)))) (.seq (.asg (.tnm 4) (.mth .join (.cst (.str "")) (.cons (.lc false [("_law_k", 7)] (.tnm 7) (.irng1 (.call i_draw (.cons (.var 0) (.cons (.cst (.int 7)) .nil)))) .nil (.idx (.var 2) (.bin false .mod (.bin false .add (.var 3) (.bin false .mul (.cst (.int 5)) (.var 7))) (.cst (.int 26))))) .nil))) (.seq (.asg (.tnm 5) (.call i_draw (.cons (.var 0) (.cons (.bin false .add (.blt .len false (.cons (.var 4) .nil)) (.cst (.int 1))) .nil)))) (.seq (.asg (.tnm 6) (.lst true .nil)) (.seq (.fr (.tnm 7) (.irng1 (.var 1)) (.seq (.asg (.tnm 8) (.bin false .add (.idx (.var 2) (.bin false .mod (.bin false .add (.var 3) (.bin false .mul (.cst (.int 7)) (.var 7))) (.cst (.int 26)))) (.bin false .mul (.idx (.var 2) (.bin false .fdiv (.var 7) (.cst (.int 26)))) (.blt .int false (.cons (.cmp .Gt (.var 1) (.cst (.int 26))) .nil))))) (.seq (.expr (.mth .append (.var 6) (.cons (.bin false .add (.bin false .add (.slc false (.var 4) .nil (.var 5)) (.var 8)) (.slc false (.var 4) (.var 5) .nil)) .nil))) .nil))) (.seq (.gfrz 6) (.seq (.ret (.var 6)) .nil))))))))
/-! _law_hours -/
def N_hours : List Str := ["_law_m", "_law_way"]
def P_hours : List Str := ["_law_m"]
def c_hours (i_draw : Nat) : CS :=
  (.seq (.asg (.tnm 1) (.call i_draw (.cons (.var 0) (.cons (.cst (.int 8)) .nil)))) (.seq (.iff (.cmp .Lt (.var 1) (.cst (.int 6))) (.seq (.ret (.bin false .add (.cst (.int 1)) (.call i_draw (.cons (.var 0) (.cons (.idx (.lst false (.cons (.cst (.int 3)) (.cons (.cst (.int 12)) (.cons (.cst (.int 1000)) .nil)))) (.bin false .mod (.var 1) (.cst (.int 3)))) .nil))))) .nil) .nil) (.seq (.ret (.bin false .sub (.bin false .pow (.cst (.int 10)) (.cst (.int 30))) (.bin false .mul (.call i_draw (.cons (.var 0) (.cons (.bin false .pow (.cst (.int 10)) (.cst (.int 9))) .nil))) (.idx (.lst false (.cons (.cst (.int 1)) (.cons (.bin false .pow (.cst (.int 10)) (.cst (.int 21))) .nil))) (.bin false .sub (.var 1) (.cst (.int 6))))))) .nil)))

abbrev iL (ns : List Int) : W := .lst (ns.map W.int)
/-- the dict of the draws: the script, and how many were drawn -/
def mO (ns : List Int) (k : Int) : Ob := .dk [(.inr "script", iL ns), (.inr "at", .int k)]
def Ctr (S : Sto) (a : Addr) (ns : List Int) (k : Int) (m : Int) : Prop := S a = some (mO ns k) ∧ 0 ≤ k ∧ k + m < 1000000000
abbrev putC (S : Sto) (a : Addr) (ns : List Int) (k : Int) : Sto := sup S a (mO ns k)
theorem g_at {ns : List Int} {k : Int} : getK [((.inr "script" : Key), iL ns), (.inr "at", W.int k)] (.inr "at") = some (.int k) := by
  unfold getK
  simp only [List.find?_cons]
  have e : decide ((Sum.inr "script" : Key) = .inr "at") = false := by decide +kernel
  rw [e]
  rfl
theorem g_sc {ns : List Int} {k : Int} : getK [((.inr "script" : Key), iL ns), (.inr "at", W.int k)] (.inr "script") = some (iL ns) := by
  unfold getK
  simp
theorem s_at {ns : List Int} {k j : Int} : setK [((.inr "script" : Key), iL ns), (.inr "at", W.int k)] (.inr "at") (.int j) = [(.inr "script", iL ns), (.inr "at", .int j)] := by
  unfold setK
  have e : (Sum.inr "script" : Key) ≠ .inr "at" := by decide +kernel
  simp [e]
section
variable {ns : List Int} {a : Addr} {k : Int} {S S2 : Sto} {Q : WK} {X : XC}
theorem ix_at (h : S a = some (mO ns k)) (q : Q (.int k) S) : idxW (.ref a) (.str "at") S Q := ix_d h rfl g_at q
theorem ix_sc (h : S a = some (mO ns k)) (q : Q (iL ns) S) : idxW (.ref a) (.str "script") S Q := ix_d h rfl g_sc q
theorem st_at {j : Int} {Q : Sto → Prop} (h : S a = some (mO ns k)) (q : Q (putC S a ns j)) : setW (.ref a) (.str "at") (.int j) S Q := st_d h rfl (by show 2 < sizeLine; decide) (by rw [s_at]; exact q)
def spDraw : MP.Spec := fun ws S Q _ => ∃ ns a k m, ws = [.ref a, .int m] ∧ ns.length ≤ 63 ∧ Ctr S a ns k 1 ∧ 0 < m ∧ m < 2 ^ 100 ∧
  ∀ v, 0 ≤ v → v < m → Q (.int v) (putC S a ns (k + 1))
theorem u_draw {m : Int} (hn : ns.length ≤ 63) (ha : S a = some (mO ns k)) (h0 : 0 ≤ k) (h9 : k + 1 < 1000000000) (m0 : 0 < m) (m1 : m < 2 ^ 100) (e : putC S a ns (k + 1) = S2) (q : ∀ v, 0 ≤ v → v < m → Q (.int v) S2) : spDraw [.ref a, .int m] S Q X := by
  subst e; exact ⟨ns, a, k, m, rfl, hn, ⟨ha, h0, h9⟩, m0, m1, q⟩
end
theorem cells {ns : List Int} {i : Int} {c : Int} (h : c = if ns = [] then 1 else 0) (h0 : 0 ≤ i) : 0 < ((ns.map W.int ++ (List.replicate c.toNat [W.int 0]).flatten).length : Int) ∧
    ∃ z, atI (ns.map W.int ++ (List.replicate c.toNat [W.int 0]).flatten) (i % ((ns.map W.int ++ (List.replicate c.toNat [W.int 0]).flatten).length : Int)) = some (.int z) := by
  obtain ⟨ms, e, ne⟩ : ∃ ms : List Int, ns.map W.int ++ (List.replicate c.toNat [W.int 0]).flatten = ms.map W.int ∧ ms ≠ [] := by
    subst h
    by_cases c : ns = []
    · rw [if_pos c, c]
      exact ⟨[0], rfl, by simp⟩
    · rw [if_neg c]
      exact ⟨ns, by simp, c⟩
  rw [e, List.length_map]
  have hl : 0 < ms.length := List.length_pos_iff.mpr ne
  have h1 := Int.emod_nonneg i (show ((ms.length : Nat) : Int) ≠ 0 by omega)
  have h2 := Int.emod_lt_of_pos i (show (0 : Int) < (ms.length : Nat) by omega)
  refine ⟨by omega, ms[(i % (ms.length : Int)).toNat]'(by omega), atI_int h1 ?_⟩
  rw [List.getElem?_map, List.getElem?_eq_getElem (by omega)]
  rfl
theorem ok_draw {Φ : Nat → MP.Spec} {ws : List W} {S : Sto} {Q : WK} {X X0 : XC} (h : spDraw ws S Q X) : wps Φ (c_draw) (startW N_draw ws) S (dEnds Q X0) := by
  obtain ⟨ns, a, k, m, rfl, hn, ⟨ha, h0, h9⟩, m0, m1, q⟩ := h
  unfold c_draw
  show wps Φ _ [some (.ref a), some (.int m), none, none, none] S (dEnds Q X0)
  repeat' contradiction
  refine ix_at ha ?_
  repeat' contradiction
  refine st_at ha ?_
  repeat' contradiction
  refine ix_sc sup_same ?_
  repeat' contradiction
  refine ix_sc sup_same ?_
  repeat' contradiction
  refine eq_p (pln_map (n := 0) (xs := ns) fun x _ => .int 0 x) (.lst 0 [] fun w h => nomatch h) fun b hb => ?_
  repeat' contradiction
  have hc : (if b = true then (1 : Int) else 0) = if ns = [] then 1 else 0 := by
    by_cases c : ns = []
    · rw [if_pos c, if_pos (hb.mpr (by rw [c]; rfl))]
    · rw [if_neg c, if_neg (fun z => c (by have := hb.mp z; injection this with this; exact List.map_eq_nil_iff.mp this))]
  generalize (if b = true then (1 : Int) else 0) = c at hc ⊢
  have hc2 : c = 0 ∨ c = 1 := by rw [hc]; split <;> simp
  refine b_rep (xs := [.int 0]) rfl (by omega) (le_line ?_) ?_
  · rcases hc2 with rfl | rfl <;> decide
  repeat' contradiction
  refine b_cat rfl rfl (le_line ?_) ?_
  · rw [List.length_map]; rcases hc2 with rfl | rfl <;> (simp; omega)
  repeat' contradiction
  obtain ⟨c1, z, hz⟩ := cells (ns := ns) (i := k) hc h0
  refine b_mod c1 ?_
  refine ix_l hz ?_
  repeat' contradiction
  have hz1 := Int.emod_nonneg z (show (10 ^ 60 : Int) ≠ 0 by decide)
  have hz2 := Int.emod_lt_of_pos z (show (0 : Int) < 10 ^ 60 by decide)
  generalize z % _ = u at hz1 hz2 ⊢
  refine b_mul (mul_ok (by omega) (by omega)) ?_
  repeat' contradiction
  refine b_mul (mul_ok (by omega) (by omega)) ?_
  repeat' contradiction
  have hf1 := Int.emod_nonneg ((u + 7919 * k + 11) * 48271) (show (2147483647 : Int) ≠ 0 by decide)
  have hf2 := Int.emod_lt_of_pos ((u + 7919 * k + 11) * 48271) (show (0 : Int) < 2147483647 by decide)
  generalize ((u + 7919 * k + 11) * 48271) % 2147483647 = f at hf1 hf2 ⊢
  refine b_mul (mul_ok (by omega) (by omega)) ?_
  repeat' contradiction
  refine b_div (div_ok (by decide) (by decide)) ?_
  repeat' contradiction
  refine d_same (q _ (Int.emod_nonneg _ (by omega)) (Int.emod_lt_of_pos _ m0))
/-- unlike names -/
def spNames : MP.Spec := fun ws S Q _ => ∃ ns a k n, ws = [.ref a, .int (n : Nat)] ∧ ns.length ≤ 63 ∧ Ctr S a ns k 10 ∧ n ≤ 26 ∧
  ∀ (f : Nat → Str) k', (∀ i, i < n → Nm 13 (f i)) → (∀ i j, i < n → j < n → f i = f j → i = j) → k ≤ k' → k' ≤ k + 3 → Q (.lst ((List.range n).map fun i => .str (f i))) (putC S a ns k')
theorem letters {first : Int} {i : Nat} : ((first + 7 * (0 + (i : Int))) % 26).toNat < 26 := by
  have h1 := Int.emod_nonneg (first + 7 * (0 + (i : Int))) (show (26 : Int) ≠ 0 by decide)
  have h2 := Int.emod_lt_of_pos (first + 7 * (0 + (i : Int))) (show (0 : Int) < 26 by decide)
  omega
theorem letters_inj {first : Int} {i j : Nat} (hi : i < 26) (hj : j < 26) (h : ((first + 7 * (0 + (i : Int))) % 26).toNat = ((first + 7 * (0 + (j : Int))) % 26).toNat) : i = j := by
  have h1 := Int.emod_nonneg (first + 7 * (0 + (i : Int))) (show (26 : Int) ≠ 0 by decide)
  have h2 := Int.emod_nonneg (first + 7 * (0 + (j : Int))) (show (26 : Int) ≠ 0 by decide)
  omega
theorem emp : ("" : Str) = Str.empty := by decide +kernel
theorem strs_map {α : Type} (f : α → Str) : ∀ xs : List α, strsW (xs.map fun x => W.str (f x)) = some (xs.map f)
  | [] => rfl
  | x :: xs => by
    show (strsW (xs.map fun x => W.str (f x))).map _ = _
    rw [strs_map f xs]
    rfl
theorem m_join0 {y : W} {ws : List W} {ss : List Str} {S : Sto} {Q : WK} (h : rdQ S y = some ws) (hs : strsW ws = some ss) (hn : ∀ x ∈ ss, Nm 1 x) (hl : ss.length ≤ 1000) (q : Q (.str (Txt.join ("" : Str) ss)) S) : mthW .join (.str "") [y] S Q := by
  refine ⟨ws, ss, h, hs, ?_, q⟩
  have e : ∀ ss : List Str, (∀ x ∈ ss, Nm 1 x) → (ss.map Str.length).sum ≤ ss.length := by
    intro ss
    induction ss with
    | nil => intro _; exact Nat.le_refl _
    | cons x r ih =>
      intro h
      have h1 := (h x (List.mem_cons_self ..)).len
      have h2 := ih fun y hy => h y (List.mem_cons_of_mem _ hy)
      rw [List.map_cons, List.sum_cons, List.length_cons]
      omega
  have h1 := e ss hn
  have h2 : ("" : Str).length = 0 := by decide +kernel
  rw [h2]
  omega
/-- the name with a letter put in -/
def nmF (F : Str) (at' first : Int) (j : Nat) : Str := cutS F none (some at') ++ (lt ((first + 7 * (0 + (j : Int))) % 26).toNat ++ Str.empty) ++ cutS F (some at') none
theorem nmF_nm {F : Str} {at' first : Int} {j : Nat} (h : Nm 6 F) : Nm 13 (nmF F at' first j) := ((h.cut _ _).app ((lt_nm letters).app Nm.nil)).app (h.cut _ _)
theorem nmF_inj {F : Str} {at' first : Int} {i j : Nat} (hi : i < 26) (hj : j < 26) (h : nmF F at' first i = nmF F at' first j) : i = j := by
  have h2 := put_inj h
  rw [app_emp, app_emp] at h2
  exact letters_inj hi hj (lt_inj h2)
theorem ite_d {p : Prop} [Decidable p] {A B : Prop} (h1 : p → A) (h2 : ¬p → B) : if decide p = true then A else B := by
  by_cases h : p
  · rw [if_pos (decide_eq_true h)]; exact h1 h
  · rw [if_neg (by simp [h])]; exact h2 h
theorem ok_names {Φ : Nat → MP.Spec} {i_draw : Nat} (hd : Φ i_draw = spDraw) {ws : List W} {S : Sto} {Q : WK} {X X0 : XC} (h : spNames ws S Q X) : wps Φ (c_names i_draw) (startW N_names ws) S (dEnds Q X0) := by
  obtain ⟨ns, a, k, n, rfl, hn, ⟨ha, h0, h9⟩, hn2, q⟩ := h
  unfold c_names
  show wps Φ _ [some (.ref a), some (.int (n : Nat)), none, none, none, none, none, none, none] S (dEnds Q X0)
  repeat' contradiction
  rw [hd]
  refine u_draw hn ha h0 (by omega) (by decide) (by decide) rfl fun first f0 f1 => ?_
  repeat' contradiction
  refine ⟨trivial, ?_⟩
  repeat' contradiction
  rw [hd]
  refine u_draw hn sup_same (by omega) (by omega) (by decide) (by decide) sup_sup fun sz z0 z1 => ?_
  refine rg1 (by omega) ?_
  rw [rng_map]
  refine lc_mp (fun (i : Nat) => W.str (lt ((first + 5 * (0 + (i : Int))) % 26).toNat)) trivial (le_line (by rw [List.length_range]; omega)) (fun i hi K hK => ?_) ?_
  · have hi' := List.mem_range.mp hi
    repeat' contradiction
    refine b_mul (mul_ok (by omega) (by omega)) ?_
    repeat' contradiction
    refine ix_abc (Int.emod_nonneg _ (by decide)) (Int.emod_lt_of_pos _ (by decide)) ?_
    exact hK
  repeat' contradiction
  have hs : ∀ x ∈ (List.range sz.toNat).map (fun (i : Nat) => lt ((first + 5 * (0 + (i : Int))) % 26).toNat), Nm 1 x := fun x hx => by
    obtain ⟨i, _, rfl⟩ := List.mem_map.mp hx
    have h1 := Int.emod_nonneg (first + 5 * (0 + (i : Int))) (show (26 : Int) ≠ 0 by decide)
    have h2 := Int.emod_lt_of_pos (first + 5 * (0 + (i : Int))) (show (0 : Int) < 26 by decide)
    exact lt_nm (by omega)
  have hl : ((List.range sz.toNat).map (fun (i : Nat) => lt ((first + 5 * (0 + (i : Int))) % 26).toNat)).length ≤ 6 := by rw [List.length_map, List.length_range]; omega
  refine m_join0 rfl (strs_map _ _) hs (Nat.le_trans hl (by decide)) ?_
  have hF : Nm 6 (Txt.join ("" : Str) ((List.range sz.toNat).map (fun (i : Nat) => lt ((first + 5 * (0 + (i : Int))) % 26).toNat))) := by rw [emp]; exact join_nil hs hl
  generalize Txt.join ("" : Str) ((List.range sz.toNat).map (fun (i : Nat) => lt ((first + 5 * (0 + (i : Int))) % 26).toNat)) = F at hF ⊢
  repeat' contradiction
  refine l_lenS (hF.line (by decide)) ?_
  repeat' contradiction
  rw [hd]
  have hFl := hF.len
  refine u_draw hn sup_same (by omega) (by omega) (by omega) (by omega) sup_sup fun at' a0 a1 => ?_
  repeat' contradiction
  refine mk_t fun p hp => ?_
  have hpa : p ≠ a := ne_new sup_same hp
  repeat' contradiction
  refine rg1 (by omega) ?_
  rw [Int.toNat_natCast]
  refine for_rng (fun i ρ S' => ∃ (r7 r8 : Option W), ρ = [some (.ref a), some (.int (n : Nat)), some (.str "abcdefghijklmnopqrstuvwxyz"), some (.int first), some (.str F), some (.int at'), some (.ref p), r7, r8] ∧
      S' = sup (putC S a ns (k + 1 + 1 + 1)) p (.lst ((List.range i).map fun (j : Nat) => .str (nmF F at' first j)))) ⟨_, _, rfl, rfl⟩ (fun _ _ _ _ => trivial) (fun i ρ S' hi h K hK => ?_) (fun ρ S' h => ?_)
  · obtain ⟨r7, r8, rfl, rfl⟩ := h
    repeat' contradiction
    refine b_mul (mul_ok (by omega) (by omega)) ?_
    repeat' contradiction
    refine ix_abc (Int.emod_nonneg _ (by decide)) (Int.emod_lt_of_pos _ (by decide)) ?_
    repeat' contradiction
    refine b_div (div_ok (by decide) (by decide)) ?_
    refine ix_abc (by omega) (by omega) ?_
    repeat' contradiction
    refine b_mulS0 (by rw [if_neg (by simp; omega)]) ?_
    refine b_strs (lt_nm letters) Nm.nil (by decide) ?_
    repeat' contradiction
    refine m_rcv rfl sup_same ?_
    repeat' contradiction
    refine ⟨hF.line (by decide), ?_⟩
    repeat' contradiction
    refine b_strs (hF.cut _ _) ((lt_nm letters).app Nm.nil) (by decide) ?_
    repeat' contradiction
    refine ⟨hF.line (by decide), ?_⟩
    repeat' contradiction
    refine b_strs ((hF.cut _ _).app ((lt_nm letters).app Nm.nil)) (hF.cut _ _) (by decide) ?_
    repeat' contradiction
    refine m_app sup_same (lt_line (by rw [List.length_map, List.length_range]; omega)) ?_
    repeat' contradiction
    refine hK _ _ ⟨_, _, rfl, ?_⟩
    rw [sup_sup, List.range_succ, List.map_append]
    rfl
  · obtain ⟨r7, r8, rfl, rfl⟩ := h
    repeat' contradiction
    refine s_gf6 sup_same ?_
    repeat' contradiction
    rw [sdel_sup (S := putC S a ns (k + 1 + 1 + 1)) hp]
    refine d_same (q (nmF F at' first) _ (fun i hi => nmF_nm hF) (fun i j hi hj e => nmF_inj (by omega) (by omega) e) (by omega) (by omega))
/-- hours, few or many -/
def spHours : MP.Spec := fun ws S Q _ => ∃ ns a k, ws = [.ref a] ∧ ns.length ≤ 63 ∧ Ctr S a ns k 10 ∧
  ∀ h k', 1 ≤ h → h ≤ 10 ^ 30 → k ≤ k' → k' ≤ k + 2 → Q (.int h) (putC S a ns k')
theorem ok_hours {Φ : Nat → MP.Spec} {i_draw : Nat} (hd : Φ i_draw = spDraw) {ws : List W} {S : Sto} {Q : WK} {X X0 : XC} (h : spHours ws S Q X) : wps Φ (c_hours i_draw) (startW N_hours ws) S (dEnds Q X0) := by
  obtain ⟨ns, a, k, rfl, hn, ⟨ha, h0, h9⟩, q⟩ := h
  unfold c_hours
  show wps Φ _ [some (.ref a), none] S (dEnds Q X0)
  repeat' contradiction
  rw [hd]
  refine u_draw hn ha h0 (by omega) (by decide) (by decide) rfl fun w w0 w1 => ?_
  repeat' contradiction
  refine ite_d (fun hw => ?_) (fun hw => ?_)
  · repeat' contradiction
    have h1 := Int.emod_nonneg w (show (3 : Int) ≠ 0 by decide)
    have h2 := Int.emod_lt_of_pos w (show (0 : Int) < 3 by decide)
    refine ix_any h1 (by simp only [List.length_cons, List.length_nil]; omega) ?_
    simp only [List.forall_mem_cons]
    have go : ∀ m : Int, 0 < m → m ≤ 1000 → (wp Φ (.nil)).es [some (.ref a), some (.int w)] (putC S a ns (k + 1)) (fun ws S2 => Φ i_draw (.ref a :: .int m :: ws) S2 (fun y S3 => bopW false .add (.int 1) y S3 (dRt Q)) (dXc X0)) (dXc X0) := fun m m0 m1 => by
      refine es_n ?_
      rw [hd]
      refine u_draw hn sup_same (by omega) (by omega) m0 (by omega) sup_sup fun v v0 v1 => ?_
      repeat' contradiction
      exact d_same (q _ _ (by omega) (by omega) (by omega) (by omega))
    exact ⟨go 3 (by decide) (by decide), go 12 (by decide) (by decide), go 1000 (by decide) (by decide), fun _ h => nomatch h⟩
  · repeat' contradiction
    rw [hd]
    refine u_draw hn sup_same (by omega) (by omega) (by decide) (by decide) sup_sup fun v v0 v1 => ?_
    repeat' contradiction
    refine ix_any (by omega) (by simp only [List.length_cons, List.length_nil]; omega) ?_
    simp only [List.forall_mem_cons]
    refine ⟨?_, ?_, fun _ h => nomatch h⟩
    · refine b_mul (mul_ok (by omega) (by omega)) ?_
      repeat' contradiction
      exact d_same (q _ _ (by omega) (by omega) (by omega) (by omega))
    · refine b_mul (mul_ok (by omega) (by omega)) ?_
      repeat' contradiction
      exact d_same (q _ _ (by omega) (by omega) (by omega) (by omega))
end LD

set_option Elab.async false
set_option linter.all false
set_option maxRecDepth 100000
set_option maxHeartbeats 4000000
/-! LF: draws, names, hours of the laws with a list of how many were drawn. -/
namespace LF
open PySem PySem.Spec PyProof.Rows L2 MP NM DK
local macro_rules
  | `(tactic| contradiction) => `(tactic| first | with_reducible refine d_in ?_ | with_reducible refine s_nil ?_ | with_reducible refine s_seq ?_ | with_reducible refine s_asg ?_ | with_reducible refine s_par ?_ | with_reducible refine s_expr ?_ | with_reducible refine s_ret ?_ | with_reducible refine s_retN ?_ | with_reducible refine s_iff ?_ | with_reducible refine s_fr ?_ | with_reducible refine s_cont ?_ | with_reducible refine s_brk ?_ | with_reducible refine s_pass ?_ | with_reducible refine s_augS ?_ | with_reducible refine e_int ?_ | with_reducible refine e_str ?_ | with_reducible refine e_bool ?_ | with_reducible refine e_none ?_ | with_reducible refine e_bin ?_ | with_reducible refine e_neg ?_ | with_reducible refine e_nt ?_ | with_reducible refine e_cmp ?_ | with_reducible refine e_chain ?_ | with_reducible refine e_an ?_ | with_reducible refine e_or ?_ | with_reducible refine an_1 ?_ | with_reducible refine an_2 ?_ | with_reducible refine or_1 ?_ | with_reducible refine or_2 ?_ | with_reducible refine e_ife ?_ | with_reducible refine e_call ?_ | with_reducible refine e_blt ?_ | with_reducible refine e_mth ?_ | with_reducible refine e_idx ?_ | with_reducible refine e_slc ?_ | with_reducible refine e_rev ?_ | with_reducible refine e_tup ?_ | with_reducible refine e_lst ?_ | with_reducible refine e_dnew ?_ | with_reducible refine e_dct ?_ | with_reducible refine e_isi ?_ | with_reducible refine e_lrg ?_ | with_reducible refine e_lzip ?_ | with_reducible refine e_stp ?_ | with_reducible refine e_sset ?_ | with_reducible refine es_n ?_ | with_reducible refine es_c ?_ | with_reducible refine o_nil ?_ | with_reducible refine o_var ?_ | with_reducible refine o_cst ?_ | with_reducible refine o_bin ?_ | with_reducible refine o_neg ?_ | with_reducible refine o_blt ?_ | with_reducible refine o_call ?_ | with_reducible refine ik ?_ | with_reducible refine ng ?_ | with_reducible refine tq_bl ?_ | with_reducible refine tq_int ?_ | with_reducible refine tq_non ?_ | with_reducible refine tq_lst ?_ | with_reducible refine tq_tup ?_ | with_reducible refine t_var ?_ | with_reducible refine t_call ?_ | with_reducible refine t_blt ?_ | with_reducible refine t_mth ?_ | with_reducible refine t_idx ?_ | with_reducible refine t_isi ?_ | with_reducible refine t_cst ?_ | with_reducible refine t_nt ?_ | with_reducible refine t_cmp ?_ | with_reducible refine t_chain ?_ | with_reducible refine t_an ?_ | with_reducible refine t_or ?_ | with_reducible refine ant_1 ?_ | with_reducible refine ant_2 ?_ | with_reducible refine ort_1 ?_ | with_reducible refine ort_2 ?_ | with_reducible refine tr_bl ?_ | with_reducible refine tr_int ?_ | with_reducible refine tr_lst ?_ | with_reducible refine tr_non ?_ | with_reducible refine c_nil ?_ | with_reducible refine c_one ?_ | with_reducible refine g_sub ?_ | with_reducible refine gs_n ?_ | with_reducible refine gs_c ?_ | with_reducible refine i_seq ?_ | with_reducible refine i_rng1 ?_ | with_reducible refine i_rng2 ?_ | with_reducible refine i_rng3 ?_ | with_reducible refine i_zip ?_ | with_reducible refine i_enm ?_ | with_reducible refine b_add ?_ | with_reducible refine b_sub ?_ | with_reducible refine c_lt ?_ | with_reducible refine c_le ?_ | with_reducible refine c_gt ?_ | with_reducible refine c_ge ?_ | with_reducible refine mk_f ?_ | with_reducible refine ref_and ?_ | with_reducible refine u_set ?_ | with_reducible refine eq_i ?_ | with_reducible refine ne_i ?_ | with_reducible refine eq_b ?_ | with_reducible refine ne_b ?_ | with_reducible refine is_b ?_ | with_reducible refine isn_b ?_ | with_reducible refine is_n ?_ | with_reducible refine isn_n ?_ | with_reducible refine e_v0 ?_ | with_reducible refine g_v0 ?_ | with_reducible refine s_u0 ?_ | with_reducible refine e_v1 ?_ | with_reducible refine g_v1 ?_ | with_reducible refine s_u1 ?_ | with_reducible refine e_v2 ?_ | with_reducible refine g_v2 ?_ | with_reducible refine s_u2 ?_ | with_reducible refine e_v3 ?_ | with_reducible refine g_v3 ?_ | with_reducible refine s_u3 ?_ | with_reducible refine e_v4 ?_ | with_reducible refine g_v4 ?_ | with_reducible refine s_u4 ?_ | with_reducible refine e_v5 ?_ | with_reducible refine g_v5 ?_ | with_reducible refine s_u5 ?_ | with_reducible refine e_v6 ?_ | with_reducible refine g_v6 ?_ | with_reducible refine s_u6 ?_ | with_reducible refine e_v7 ?_ | with_reducible refine g_v7 ?_ | with_reducible refine s_u7 ?_ | with_reducible refine e_v8 ?_ | with_reducible refine g_v8 ?_ | with_reducible refine s_u8 ?_ | with_reducible refine e_v9 ?_ | with_reducible refine g_v9 ?_ | with_reducible refine s_u9 ?_ | with_reducible refine e_v10 ?_ | with_reducible refine g_v10 ?_ | with_reducible refine s_u10 ?_ | with_reducible refine e_v11 ?_ | with_reducible refine g_v11 ?_ | with_reducible refine s_u11 ?_ | with_reducible refine e_v12 ?_ | with_reducible refine g_v12 ?_ | with_reducible refine s_u12 ?_ | with_reducible refine e_v13 ?_ | with_reducible refine g_v13 ?_ | with_reducible refine s_u13 ?_ | with_reducible refine e_v14 ?_ | with_reducible refine g_v14 ?_ | with_reducible refine s_u14 ?_ | with_reducible refine e_v15 ?_ | with_reducible refine g_v15 ?_ | with_reducible refine s_u15 ?_ | with_reducible refine e_v16 ?_ | with_reducible refine g_v16 ?_ | with_reducible refine s_u16 ?_ | with_reducible refine e_v17 ?_ | with_reducible refine g_v17 ?_ | with_reducible refine s_u17 ?_ | with_reducible refine e_v18 ?_ | with_reducible refine g_v18 ?_ | with_reducible refine s_u18 ?_ | with_reducible refine e_v19 ?_ | with_reducible refine g_v19 ?_ | with_reducible refine s_u19 ?_ | ((with_reducible refine e_lc' (ρ' := ?rr) ?hw ?_); (case hw => (dsimp only [wipeW, List.map, List.set]; exact rfl))) | ((with_reducible refine g_tup ?hl ?_); (case hl => exact rfl)) | with_reducible refine b_mod (by first | decide | omega) ?_ | ((with_reducible refine b_pow (pow_ok (by decide) (by decide) (by decide)) ?_); simp only [Int.reduceToNat, Int.reducePow]) | with_reducible refine le_and (by simp only [List.length_cons, List.length_nil]; decide) ?_ | with_reducible refine l_intB ?_ | with_reducible refine l_intI ?_ | with_reducible refine sl_f ?_ | (refine l_len (by exact rfl) (q := ?_); skip) | (refine l_list (by exact rfl) ?_; skip) | (refine ix_t (by exact rfl) ?_; skip))

/-! _law_draw -/
def N_draw : List Str := ["_law_script", "_law_at", "_law_many", "_law_k", "_law_cells", "_law_number"]
def P_draw : List Str := ["_law_script", "_law_at", "_law_many"]
def c_draw : CS :=
  (.seq (.asg (.tnm 3) (.idx (.var 1) (.cst (.int 0)))) (.seq (.asg (.tsub (.var 1) (.cst (.int 0))) (.bin false .add (.var 3) (.cst (.int 1)))) (.seq (.asg (.tnm 4) (.bin false .add (.var 0) (.bin false .mul (.lst false (.cons (.cst (.int 0)) .nil)) (.blt .int false (.cons (.cmp .Eq (.var 0) (.lst false .nil)) .nil))))) (.seq (.asg (.tnm 5) (.bin false .mod (.bin false .mul (.bin false .add (.bin false .add (.bin false .mod (.idx (.var 4) (.bin false .mod (.var 3) (.blt .len false (.cons (.var 4) .nil)))) (.cst (.int 1000000007))) (.bin false .mul (.cst (.int 31)) (.var 3))) (.cst (.int 17))) (.cst (.int 48271))) (.cst (.int 2147483647)))) (.seq (.ret (.bin false .mod (.bin false .fdiv (.bin false .mod (.bin false .mul (.var 5) (.bin false .add (.bin false .mul (.var 3) (.var 3)) (.cst (.int 16807)))) (.cst (.int 2147483629))) (.cst (.int 4096))) (.var 2))) .nil)))))
/-! _law_names -/
def N_names : List Str := ["_law_script", "_law_at", "_law_many", "_law_letters", "_law_tail", "_law_first", "_law_size", "_law_place", "_law_most", "_law_k", "_law_j"]
def P_names : List Str := ["_law_script", "_law_at", "_law_many"]
def c_names (i_draw : Nat) : CS :=
  (.seq (.asg (.tnm 3) (.cst (.str "abcdefghijklmnopqrstuvwxyz"))) (.seq (.asg (.ttup (.cons (.tnm 5) (.cons (.tnm 6) (.cons (.tnm 7) .nil)))) (.lc false [("_law_most", 8)] (.tnm 8) (.iseq (.tup (.cons (.cst (.int 26)) (.cons (.cst (.int 8)) (.cons (.cst (.int 8)) .nil))))) .nil (.call i_draw (.cons (.var 0) (.cons (.var 1) (.cons (.var 8) .nil)))))) (.seq (.asg (.tnm 4) (.mth .join (.cst (.str "")) (.cons (.lc false [("_law_j", 10)] (.tnm 10) (.irng1 (.var 6)) .nil (.idx (.var 3) (.bin false .mod (.bin false .add (.var 5) (.bin false .mul (.cst (.int 5)) (.var 10))) (.cst (.int 26))))) .nil))) (.seq (.ret (.lc false [("_law_k", 9)] (.tnm 9) (.irng1 (.var 2)) .nil (.bin false .add (.bin false .add (.slc false (.var 4) .nil (.var 7)) (.idx (.var 3) (.bin false .mod (.bin false .add (.var 5) (.bin false .mul (.cst (.int 7)) (.var 9))) (.cst (.int 26))))) (.slc false (.var 4) (.var 7) .nil)))) .nil))))
/-! _law_hours -/
def N_hours : List Str := ["_law_script", "_law_at", "_law_small", "_law_wide"]
def P_hours : List Str := ["_law_script", "_law_at"]
def c_hours (i_draw : Nat) : CS :=
  (.seq (.asg (.tnm 2) (.bin false .add (.cst (.int 1)) (.call i_draw (.cons (.var 0) (.cons (.var 1) (.cons (.cst (.int 9)) .nil)))))) (.seq (.asg (.tnm 3) (.bin false .add (.cst (.int 1)) (.bin false .mul (.call i_draw (.cons (.var 0) (.cons (.var 1) (.cons (.bin false .pow (.cst (.int 10)) (.cst (.int 9))) .nil)))) (.bin false .pow (.cst (.int 10)) (.cst (.int 20)))))) (.seq (.ret (.idx (.lst false (.cons (.var 2) (.cons (.var 2) (.cons (.var 2) (.cons (.var 2) (.cons (.var 3) (.cons (.bin false .pow (.cst (.int 10)) (.cst (.int 30))) (.cons (.bin false .sub (.bin false .pow (.cst (.int 10)) (.cst (.int 30))) (.var 2)) .nil)))))))) (.call i_draw (.cons (.var 0) (.cons (.var 1) (.cons (.cst (.int 7)) .nil)))))) .nil)))
/-! _law_town -/
def N_town : List Str := ["_law_script", "_law_at", "_law_many", "_law_found", "_law_name", "_law_great", "_law_purse", "_law_below", "_law_over", "_law_k"]
def P_town : List Str := ["_law_script", "_law_at", "_law_many"]
def c_town (i_names i_draw i_hours : Nat) : CS :=
  (.seq (.asg (.tnm 3) (.lst true .nil)) (.seq (.fr (.tnm 4) (.iseq (.call i_names (.cons (.var 0) (.cons (.var 1) (.cons (.var 2) .nil))))) (.seq (.asg (.tnm 5) (.bin false .sub (.bin false .pow (.cst (.int 10)) (.cst (.int 30))) (.call i_draw (.cons (.var 0) (.cons (.var 1) (.cons (.cst (.int 5)) .nil)))))) (.seq (.asg (.tnm 6) (.idx (.lst false (.cons (.cst (.int 0)) (.cons (.cst (.int 0)) (.cons (.bin false .sub (.call i_draw (.cons (.var 0) (.cons (.var 1) (.cons (.cst (.int 19)) .nil)))) (.cst (.int 9))) (.cons (.var 5) (.cons (.bin false .sub (.cst (.int 0)) (.var 5)) .nil)))))) (.call i_draw (.cons (.var 0) (.cons (.var 1) (.cons (.cst (.int 5)) .nil)))))) (.seq (.asg (.ttup (.cons (.tnm 7) (.cons (.tnm 8) .nil))) (.lc false [("_law_k", 9)] (.tnm 9) (.irng1 (.cst (.int 2))) .nil (.idx (.lst false (.cons (.cst (.int 0)) (.cons (.cst (.int 0)) (.cons (.call i_hours (.cons (.var 0) (.cons (.var 1) .nil))) (.cons (.cst (.int 3)) .nil))))) (.call i_draw (.cons (.var 0) (.cons (.var 1) (.cons (.cst (.int 4)) .nil))))))) (.seq (.expr (.mth .append (.var 3) (.cons (.tup (.cons (.var 4) (.cons (.var 6) (.cons (.blt .max2 false (.cons (.neg (.bin false .pow (.cst (.int 10)) (.cst (.int 30)))) (.cons (.bin false .sub (.var 6) (.var 7)) .nil))) (.cons (.blt .min2 false (.cons (.bin false .pow (.cst (.int 10)) (.cst (.int 30))) (.cons (.bin false .add (.var 6) (.var 8)) .nil))) .nil))))) .nil))) .nil))))) (.seq (.gfrz 3) (.seq (.ret (.var 3)) .nil))))
/-! _law_day -/
def N_day : List Str := ["_law_script", "_law_at", "_law_town_here", "_law_most", "_law_skills_here", "_law_found", "_law_seen", "_law_k", "_law_name", "_law_skill", "_law_side", "_law_hours_here"]
def P_day : List Str := ["_law_script", "_law_at", "_law_town_here", "_law_most"]
def c_day (i_names i_draw i_hours : Nat) : CS :=
  (.seq (.asg (.tnm 4) (.call i_names (.cons (.var 0) (.cons (.var 1) (.cons (.bin false .add (.cst (.int 1)) (.call i_draw (.cons (.var 0) (.cons (.var 1) (.cons (.cst (.int 12)) .nil))))) .nil))))) (.seq (.asg (.tnm 5) (.tup (.cons (.lst true .nil) (.cons (.lst true .nil) .nil)))) (.seq (.asg (.tnm 6) (.dnew true)) (.seq (.fr (.tnm 7) (.irng1 (.bin false .mul (.call i_draw (.cons (.var 0) (.cons (.var 1) (.cons (.bin false .add (.var 3) (.cst (.int 1))) .nil)))) (.blt .int false (.cons (.cmp .NotEq (.var 2) (.lst false .nil)) .nil)))) (.seq (.asg (.tnm 8) (.idx (.idx (.var 2) (.call i_draw (.cons (.var 0) (.cons (.var 1) (.cons (.blt .len false (.cons (.var 2) .nil)) .nil))))) (.cst (.int 0)))) (.seq (.asg (.tnm 9) (.idx (.var 4) (.call i_draw (.cons (.var 0) (.cons (.var 1) (.cons (.blt .len false (.cons (.var 4) .nil)) .nil)))))) (.seq (.par [10, 11] (.cons (.call i_draw (.cons (.var 0) (.cons (.var 1) (.cons (.cst (.int 2)) .nil)))) (.cons (.call i_hours (.cons (.var 0) (.cons (.var 1) .nil))) .nil))) (.seq (.iff (.cmp .NotIn (.tup (.cons (.var 8) (.cons (.var 9) .nil))) (.var 6)) (.seq (.asg (.tsub (.var 6) (.tup (.cons (.var 8) (.cons (.var 9) .nil)))) (.cst (.bool true))) (.seq (.expr (.mth .append (.idx (.var 5) (.var 10)) (.cons (.tup (.cons (.var 8) (.cons (.var 9) (.cons (.var 11) .nil)))) .nil))) .nil)) .nil) .nil))))) (.seq (.gfr2 5) (.seq (.ret (.var 5)) .nil))))))
/-! _law_skills -/
def N_skills : List Str := ["_law_day_here", "_law_one"]
def P_skills : List Str := ["_law_day_here"]
def c_skills : CS :=
  (.seq (.ret (.blt .listK false (.cons (.blt .dictK false (.cons (.lc false [("_law_one", 1)] (.tnm 1) (.iseq (.bin false .add (.idx (.var 0) (.cst (.int 0))) (.idx (.var 0) (.cst (.int 1))))) .nil (.tup (.cons (.idx (.var 1) (.cst (.int 1))) (.cons (.cst (.bool true)) .nil)))) .nil)) .nil))) .nil)
/-! _law_prices -/
def N_prices : List Str := ["_law_script", "_law_at", "_law_town_here", "_law_day_here", "_law_found", "_law_key", "_law_small", "_law_one", "_law_skill"]
def P_prices : List Str := ["_law_script", "_law_at", "_law_town_here", "_law_day_here"]
def c_prices (i_draw i_skills : Nat) : CS :=
  (.seq (.asg (.tnm 4) (.dnew true)) (.seq (.fr (.tnm 5) (.iseq (.bin false .add (.lc false [("_law_one", 7)] (.tnm 7) (.iseq (.var 2)) .nil (.tup (.cons (.cst (.str "name")) (.cons (.idx (.var 7) (.cst (.int 0))) .nil)))) (.lc false [("_law_skill", 8)] (.tnm 8) (.iseq (.call i_skills (.cons (.var 3) .nil))) .nil (.tup (.cons (.cst (.str "skill")) (.cons (.var 8) .nil)))))) (.seq (.asg (.tnm 6) (.bin false .sub (.call i_draw (.cons (.var 0) (.cons (.var 1) (.cons (.cst (.int 5)) .nil)))) (.cst (.int 2)))) (.seq (.asg (.tsub (.var 4) (.var 5)) (.idx (.lst false (.cons (.var 6) (.cons (.var 6) (.cons (.cst (.int 0)) (.cons (.cst (.int 1)) (.cons (.bin false .mul (.var 6) (.bin false .pow (.cst (.int 10)) (.cst (.int 30)))) (.cons (.call i_draw (.cons (.var 0) (.cons (.var 1) (.cons (.bin false .pow (.cst (.int 10)) (.cst (.int 6))) .nil)))) .nil))))))) (.call i_draw (.cons (.var 0) (.cons (.var 1) (.cons (.cst (.int 6)) .nil)))))) .nil))) (.seq (.ret (.var 4)) .nil)))

abbrev iL (ns : List Int) : W := .lst (ns.map W.int)
/-- how many were drawn -/
def Ctr (S : Sto) (a : Addr) (k : Int) (m : Int) : Prop := S a = some (.lst [.int k]) ∧ 0 ≤ k ∧ k + m < 1000000000
abbrev putC (S : Sto) (a : Addr) (k : Int) : Sto := sup S a (.lst [.int k])
section
variable {ns : List Int} {a : Addr} {k : Int} {S S2 : Sto} {Q : WK} {X : XC}
def spDraw : MP.Spec := fun ws S Q _ => ∃ ns a k m, ws = [iL ns, .ref a, .int m] ∧ ns.length ≤ 63 ∧ Ctr S a k 1 ∧ 0 < m ∧ m < 2 ^ 100 ∧
  ∀ v, 0 ≤ v → v < m → Q (.int v) (putC S a (k + 1))
theorem u_draw {m : Int} (hn : ns.length ≤ 63) (ha : S a = some (.lst [.int k])) (h0 : 0 ≤ k) (h9 : k + 1 < 1000000000) (m0 : 0 < m) (m1 : m < 2 ^ 100) (e : putC S a (k + 1) = S2) (q : ∀ v, 0 ≤ v → v < m → Q (.int v) S2) : spDraw [iL ns, .ref a, .int m] S Q X := by
  subst e; exact ⟨ns, a, k, m, rfl, hn, ⟨ha, h0, h9⟩, m0, m1, q⟩
end
theorem ok_draw {Φ : Nat → MP.Spec} {ws : List W} {S : Sto} {Q : WK} {X X0 : XC} (h : spDraw ws S Q X) : wps Φ (c_draw) (startW N_draw ws) S (dEnds Q X0) := by
  obtain ⟨ns, a, k, m, rfl, hn, ⟨ha, h0, h9⟩, m0, m1, q⟩ := h
  unfold c_draw
  show wps Φ _ [some (iL ns), some (.ref a), some (.int m), none, none, none] S (dEnds Q X0)
  repeat' contradiction
  refine ix_c ha (i := 0) rfl ?_
  repeat' contradiction
  refine st_l ha (j := 0) rfl ?_
  repeat' contradiction
  refine eq_p (pln_map (n := 0) (xs := ns) fun x _ => .int 0 x) (.lst 0 [] fun w h => nomatch h) fun b hb => ?_
  repeat' contradiction
  have hc : (if b = true then (1 : Int) else 0) = if ns = [] then 1 else 0 := by
    by_cases c : ns = []
    · rw [if_pos c, if_pos (hb.mpr (by rw [c]; rfl))]
    · rw [if_neg c, if_neg (fun z => c (by have := hb.mp z; injection this with this; exact List.map_eq_nil_iff.mp this))]
  generalize (if b = true then (1 : Int) else 0) = c at hc ⊢
  have hc2 : c = 0 ∨ c = 1 := by rw [hc]; split <;> simp
  refine b_rep (xs := [.int 0]) rfl (by omega) (le_line ?_) ?_
  · rcases hc2 with rfl | rfl <;> decide
  repeat' contradiction
  refine b_cat rfl rfl (le_line ?_) ?_
  · rw [List.length_map]; rcases hc2 with rfl | rfl <;> (simp; omega)
  repeat' contradiction
  obtain ⟨c1, z, hz⟩ := LD.cells (ns := ns) (i := k) hc h0
  refine b_mod c1 ?_
  refine ix_l hz ?_
  repeat' contradiction
  have hz1 := Int.emod_nonneg z (show (1000000007 : Int) ≠ 0 by decide)
  have hz2 := Int.emod_lt_of_pos z (show (0 : Int) < 1000000007 by decide)
  generalize z % _ = u at hz1 hz2 ⊢
  refine b_mul (mul_ok (by omega) (by omega)) ?_
  repeat' contradiction
  refine b_mul (mul_ok (by omega) (by omega)) ?_
  repeat' contradiction
  have hf1 := Int.emod_nonneg ((u + 31 * k + 17) * 48271) (show (2147483647 : Int) ≠ 0 by decide)
  have hf2 := Int.emod_lt_of_pos ((u + 31 * k + 17) * 48271) (show (0 : Int) < 2147483647 by decide)
  generalize ((u + 31 * k + 17) * 48271) % 2147483647 = f at hf1 hf2 ⊢
  refine b_mul (mul_ok (by omega) (by omega)) ?_
  repeat' contradiction
  have hk0 : 0 ≤ k * k := Int.mul_nonneg h0 h0
  have hk1 : k * k ≤ 1000000000 * 1000000000 := Int.mul_le_mul (by omega) (by omega) h0 (by omega)
  refine b_mul (mul_ok (by omega) (by omega)) ?_
  repeat' contradiction
  refine b_div (div_ok (by decide) (by decide)) ?_
  repeat' contradiction
  refine d_same (q _ (Int.emod_nonneg _ (by omega)) (Int.emod_lt_of_pos _ m0))
/-! ### names -/
/-- a name: one to eight small letters -/
structure Nme (x : Str) : Prop where
  nm : Nm 8 x
  pos : 0 < x.length
theorem cut_lo {z : Str} {p : Int} (h : 0 ≤ p) : (cutS z none (some p)).length = min p.toNat z.length := by
  rw [len_cps]
  unfold cutS
  rw [HT.sIx_none, sIx_nn h]
  have e := len_cps (x := z)
  simp only [List.drop_zero, Nat.sub_zero, List.length_take]
  rw [← e]
  omega
theorem cut_hi {z : Str} {p : Int} (h : 0 ≤ p) : (cutS z (some p) none).length = z.length - min p.toNat z.length := by
  rw [len_cps]
  unfold cutS
  rw [HT.sIx_none, sIx_nn h]
  have e := len_cps (x := z)
  simp only [List.length_take, List.length_drop]
  rw [← e]
  omega
def nmF (F : Str) (p first : Int) (j : Nat) : Str := cutS F none (some p) ++ lt ((first + 7 * (0 + (j : Int))) % 26).toNat ++ cutS F (some p) none
theorem nmF_nme {F : Str} {p first : Int} {j : Nat} (h : Nm 7 F) (hp : 0 ≤ p) : Nme (nmF F p first j) := by
  have h1 := (((h.cut none (some p)).app (lt_nm (LD.letters (first := first) (i := j)))).app (h.cut (some p) none)).low
  have hl : (nmF F p first j).length = F.length + 1 := by
    unfold nmF
    rw [app_len, app_len, cut_lo hp, cut_hi hp]
    have : (lt ((first + 7 * (0 + (j : Int))) % 26).toNat).length = 1 := rfl
    omega
  have := h.len
  exact ⟨⟨by omega, h1⟩, by omega⟩
theorem nmF_inj {F : Str} {p first : Int} {i j : Nat} (hi : i < 26) (hj : j < 26) (h : nmF F p first i = nmF F p first j) : i = j :=
  LD.letters_inj hi hj (lt_inj (put_inj h))
def spNames : MP.Spec := fun ws S Q _ => ∃ ns a k n, ws = [iL ns, .ref a, .int (n : Nat)] ∧ ns.length ≤ 63 ∧ Ctr S a k 10 ∧ n ≤ 26 ∧
  ∀ xs : List Str, xs.length = n → xs.Nodup → (∀ x ∈ xs, Nme x) → Q (.lst (xs.map W.str)) (putC S a (k + 3))
theorem nodup_map {α β : Type} {f : α → β} {xs : List α} (hn : xs.Nodup) (h : ∀ x ∈ xs, ∀ y ∈ xs, f x = f y → x = y) : (xs.map f).Nodup := by
  rw [List.Nodup, List.pairwise_map]
  exact hn.imp_of_mem fun hx hy ne e => ne (h _ hx _ hy e)
theorem ok_names {Φ : Nat → MP.Spec} {i_draw : Nat} (hd : Φ i_draw = spDraw) {ws : List W} {S : Sto} {Q : WK} {X X0 : XC} (h : spNames ws S Q X) : wps Φ (c_names i_draw) (startW N_names ws) S (dEnds Q X0) := by
  obtain ⟨ns, a, k, n, rfl, hn, ⟨ha, h0, h9⟩, hn2, q⟩ := h
  unfold c_names
  show wps Φ _ [some (iL ns), some (.ref a), some (.int (n : Nat)), none, none, none, none, none, none, none, none] S (dEnds Q X0)
  repeat' contradiction
  refine ⟨_, rfl, ?_⟩
  refine lc_c0 rfl ?_
  repeat' contradiction
  rw [hd]
  refine u_draw hn ha h0 (by omega) (by decide) (by decide) rfl fun first f0 f1 => ?_
  refine ⟨lt_line (by show (0:Nat) ≤ 10000; decide), lc_c0 rfl ?_⟩
  repeat' contradiction
  rw [hd]
  refine u_draw hn sup_same (by omega) (by omega) (by decide) (by decide) sup_sup fun sz z0 z1 => ?_
  refine ⟨lt_line (by show (1:Nat) ≤ 10000; decide), lc_c0 rfl ?_⟩
  repeat' contradiction
  rw [hd]
  refine u_draw hn sup_same (by omega) (by omega) (by decide) (by decide) sup_sup fun p p0 p1 => ?_
  refine ⟨lt_line (by show (2:Nat) ≤ 10000; decide), lc_n rfl ?_⟩
  repeat' contradiction
  refine g_lst rfl rfl ?_
  show (wp Φ _).gs [W.int first, W.int sz, W.int p] _ _ _
  repeat' contradiction
  refine ⟨trivial, ?_⟩
  repeat' contradiction
  refine rg1 (by omega) ?_
  rw [rng_map]
  refine lc_mp (fun (i : Nat) => W.str (lt ((first + 5 * (0 + (i : Int))) % 26).toNat)) trivial (le_line (by rw [List.length_range]; omega)) (fun i hi K hK => ?_) ?_
  · have hi' := List.mem_range.mp hi
    repeat' contradiction
    refine b_mul (mul_ok (by omega) (by omega)) ?_
    repeat' contradiction
    refine ix_abc (Int.emod_nonneg _ (by decide)) (Int.emod_lt_of_pos _ (by decide)) ?_
    exact hK
  repeat' contradiction
  have hs : ∀ x ∈ (List.range sz.toNat).map (fun (i : Nat) => lt ((first + 5 * (0 + (i : Int))) % 26).toNat), Nm 1 x := fun x hx => by
    obtain ⟨i, _, rfl⟩ := List.mem_map.mp hx
    have h1 := Int.emod_nonneg (first + 5 * (0 + (i : Int))) (show (26 : Int) ≠ 0 by decide)
    have h2 := Int.emod_lt_of_pos (first + 5 * (0 + (i : Int))) (show (0 : Int) < 26 by decide)
    exact lt_nm (by omega)
  have hl : ((List.range sz.toNat).map (fun (i : Nat) => lt ((first + 5 * (0 + (i : Int))) % 26).toNat)).length ≤ 7 := by rw [List.length_map, List.length_range]; omega
  refine LD.m_join0 rfl (LD.strs_map _ _) hs (Nat.le_trans hl (by decide)) ?_
  have hF : Nm 7 (Txt.join ("" : Str) ((List.range sz.toNat).map (fun (i : Nat) => lt ((first + 5 * (0 + (i : Int))) % 26).toNat))) := by rw [LD.emp]; exact join_nil hs hl
  generalize Txt.join ("" : Str) ((List.range sz.toNat).map (fun (i : Nat) => lt ((first + 5 * (0 + (i : Int))) % 26).toNat)) = F at hF ⊢
  repeat' contradiction
  refine rg1 (by omega) ?_
  rw [Int.toNat_natCast, rng_map]
  refine lc_mp (fun (i : Nat) => W.str (nmF F p first i)) trivial (le_line (by rw [List.length_range]; omega)) (fun i hi K hK => ?_) ?_
  · have hi' := List.mem_range.mp hi
    repeat' contradiction
    refine ⟨hF.line (by decide), ?_⟩
    repeat' contradiction
    refine b_mul (mul_ok (by omega) (by omega)) ?_
    repeat' contradiction
    refine ix_abc (Int.emod_nonneg _ (by decide)) (Int.emod_lt_of_pos _ (by decide)) ?_
    refine b_strs (hF.cut _ _) (lt_nm LD.letters) (by decide) ?_
    repeat' contradiction
    refine ⟨hF.line (by decide), ?_⟩
    repeat' contradiction
    refine b_strs ((hF.cut _ _).app (lt_nm LD.letters)) (hF.cut _ _) (by decide) ?_
    exact hK
  repeat' contradiction
  have e : (List.range n).map (fun (i : Nat) => W.str (nmF F p first i)) = ((List.range n).map fun i => nmF F p first i).map W.str := by rw [List.map_map]; rfl
  rw [e, show k + 1 + 1 + 1 = k + 3 by omega]
  refine d_same (q _ (by simp) (nodup_map List.nodup_range fun i hi j hj e => nmF_inj (by have := List.mem_range.mp hi; omega) (by have := List.mem_range.mp hj; omega) e) fun x hx => ?_)
  obtain ⟨i, _, rfl⟩ := List.mem_map.mp hx
  exact nmF_nme hF p0
/-- hours, few or many -/
def spHours : MP.Spec := fun ws S Q _ => ∃ ns a k, ws = [iL ns, .ref a] ∧ ns.length ≤ 63 ∧ Ctr S a k 10 ∧
  ∀ h, 1 ≤ h → h ≤ 10 ^ 30 → Q (.int h) (putC S a (k + 3))
theorem u_hours {ns : List Int} {a : Addr} {k : Int} {S S2 : Sto} {Q : WK} {X : XC} (hn : ns.length ≤ 63) (ha : S a = some (.lst [.int k])) (h0 : 0 ≤ k) (h9 : k + 10 < 1000000000) (e : putC S a (k + 3) = S2) (q : ∀ v, 1 ≤ v → v ≤ 10 ^ 30 → Q (.int v) S2) : spHours [iL ns, .ref a] S Q X := by
  subst e; exact ⟨ns, a, k, rfl, hn, ⟨ha, h0, h9⟩, q⟩
theorem ok_hours {Φ : Nat → MP.Spec} {i_draw : Nat} (hd : Φ i_draw = spDraw) {ws : List W} {S : Sto} {Q : WK} {X X0 : XC} (h : spHours ws S Q X) : wps Φ (c_hours i_draw) (startW N_hours ws) S (dEnds Q X0) := by
  obtain ⟨ns, a, k, rfl, hn, ⟨ha, h0, h9⟩, q⟩ := h
  unfold c_hours
  show wps Φ _ [some (iL ns), some (.ref a), none, none] S (dEnds Q X0)
  repeat' contradiction
  rw [hd]
  refine u_draw hn ha h0 (by omega) (by decide) (by decide) rfl fun u u0 u1 => ?_
  repeat' contradiction
  rw [hd]
  refine u_draw hn sup_same (by omega) (by omega) (by decide) (by decide) sup_sup fun v v0 v1 => ?_
  repeat' contradiction
  refine b_mul (mul_ok (by omega) (by omega)) ?_
  repeat' contradiction
  rw [hd]
  refine u_draw hn sup_same (by omega) (by omega) (by decide) (by decide) sup_sup fun z z0 z1 => ?_
  refine ix_pick (P := fun w => ∃ h : Int, w = .int h ∧ 1 ≤ h ∧ h ≤ 10 ^ 30) z0 (by simp only [List.length_cons, List.length_nil]; omega) ?_ ?_
  · simp only [List.forall_mem_cons]
    refine ⟨?_, ?_, ?_, ?_, ?_, ?_, ?_, fun _ h => nomatch h⟩ <;> exact ⟨_, rfl, by omega, by omega⟩
  · rintro _ ⟨h, rfl, h1, h2⟩
    rw [show k + 1 + 1 + 1 = k + 3 by omega]
    exact d_same (q h h1 h2)
end LF

set_option Elab.async false
set_option linter.all false
set_option maxRecDepth 100000
set_option maxHeartbeats 4000000
/-! LG: towns, days, papers of the laws with a list of how many were drawn. -/
namespace LG
open PySem PySem.Spec PyProof.Rows L2 MP NM DK LF
local macro_rules
  | `(tactic| contradiction) => `(tactic| first | with_reducible refine d_in ?_ | with_reducible refine s_nil ?_ | with_reducible refine s_seq ?_ | with_reducible refine s_asg ?_ | with_reducible refine s_par ?_ | with_reducible refine s_expr ?_ | with_reducible refine s_ret ?_ | with_reducible refine s_retN ?_ | with_reducible refine s_iff ?_ | with_reducible refine s_fr ?_ | with_reducible refine s_cont ?_ | with_reducible refine s_brk ?_ | with_reducible refine s_pass ?_ | with_reducible refine s_augS ?_ | with_reducible refine e_int ?_ | with_reducible refine e_str ?_ | with_reducible refine e_bool ?_ | with_reducible refine e_none ?_ | with_reducible refine e_bin ?_ | with_reducible refine e_neg ?_ | with_reducible refine e_nt ?_ | with_reducible refine e_cmp ?_ | with_reducible refine e_chain ?_ | with_reducible refine e_an ?_ | with_reducible refine e_or ?_ | with_reducible refine an_1 ?_ | with_reducible refine an_2 ?_ | with_reducible refine or_1 ?_ | with_reducible refine or_2 ?_ | with_reducible refine e_ife ?_ | with_reducible refine e_call ?_ | with_reducible refine e_blt ?_ | with_reducible refine e_mth ?_ | with_reducible refine e_idx ?_ | with_reducible refine e_slc ?_ | with_reducible refine e_rev ?_ | with_reducible refine e_tup ?_ | with_reducible refine e_lst ?_ | with_reducible refine e_dnew ?_ | with_reducible refine e_dct ?_ | with_reducible refine e_isi ?_ | with_reducible refine e_lrg ?_ | with_reducible refine e_lzip ?_ | with_reducible refine e_stp ?_ | with_reducible refine e_sset ?_ | with_reducible refine es_n ?_ | with_reducible refine es_c ?_ | with_reducible refine o_nil ?_ | with_reducible refine o_var ?_ | with_reducible refine o_cst ?_ | with_reducible refine o_bin ?_ | with_reducible refine o_neg ?_ | with_reducible refine o_blt ?_ | with_reducible refine o_call ?_ | with_reducible refine ik ?_ | with_reducible refine ng ?_ | with_reducible refine tq_bl ?_ | with_reducible refine tq_int ?_ | with_reducible refine tq_non ?_ | with_reducible refine tq_lst ?_ | with_reducible refine tq_tup ?_ | with_reducible refine t_var ?_ | with_reducible refine t_call ?_ | with_reducible refine t_blt ?_ | with_reducible refine t_mth ?_ | with_reducible refine t_idx ?_ | with_reducible refine t_isi ?_ | with_reducible refine t_cst ?_ | with_reducible refine t_nt ?_ | with_reducible refine t_cmp ?_ | with_reducible refine t_chain ?_ | with_reducible refine t_an ?_ | with_reducible refine t_or ?_ | with_reducible refine ant_1 ?_ | with_reducible refine ant_2 ?_ | with_reducible refine ort_1 ?_ | with_reducible refine ort_2 ?_ | with_reducible refine tr_bl ?_ | with_reducible refine tr_int ?_ | with_reducible refine tr_lst ?_ | with_reducible refine tr_non ?_ | with_reducible refine c_nil ?_ | with_reducible refine c_one ?_ | with_reducible refine g_sub ?_ | with_reducible refine gs_n ?_ | with_reducible refine gs_c ?_ | with_reducible refine i_seq ?_ | with_reducible refine i_rng1 ?_ | with_reducible refine i_rng2 ?_ | with_reducible refine i_rng3 ?_ | with_reducible refine i_zip ?_ | with_reducible refine i_enm ?_ | with_reducible refine b_add ?_ | with_reducible refine b_sub ?_ | with_reducible refine c_lt ?_ | with_reducible refine c_le ?_ | with_reducible refine c_gt ?_ | with_reducible refine c_ge ?_ | with_reducible refine mk_f ?_ | with_reducible refine ref_and ?_ | with_reducible refine u_set ?_ | with_reducible refine eq_i ?_ | with_reducible refine ne_i ?_ | with_reducible refine eq_b ?_ | with_reducible refine ne_b ?_ | with_reducible refine is_b ?_ | with_reducible refine isn_b ?_ | with_reducible refine is_n ?_ | with_reducible refine isn_n ?_ | with_reducible refine e_v0 ?_ | with_reducible refine g_v0 ?_ | with_reducible refine s_u0 ?_ | with_reducible refine e_v1 ?_ | with_reducible refine g_v1 ?_ | with_reducible refine s_u1 ?_ | with_reducible refine e_v2 ?_ | with_reducible refine g_v2 ?_ | with_reducible refine s_u2 ?_ | with_reducible refine e_v3 ?_ | with_reducible refine g_v3 ?_ | with_reducible refine s_u3 ?_ | with_reducible refine e_v4 ?_ | with_reducible refine g_v4 ?_ | with_reducible refine s_u4 ?_ | with_reducible refine e_v5 ?_ | with_reducible refine g_v5 ?_ | with_reducible refine s_u5 ?_ | with_reducible refine e_v6 ?_ | with_reducible refine g_v6 ?_ | with_reducible refine s_u6 ?_ | with_reducible refine e_v7 ?_ | with_reducible refine g_v7 ?_ | with_reducible refine s_u7 ?_ | with_reducible refine e_v8 ?_ | with_reducible refine g_v8 ?_ | with_reducible refine s_u8 ?_ | with_reducible refine e_v9 ?_ | with_reducible refine g_v9 ?_ | with_reducible refine s_u9 ?_ | with_reducible refine e_v10 ?_ | with_reducible refine g_v10 ?_ | with_reducible refine s_u10 ?_ | with_reducible refine e_v11 ?_ | with_reducible refine g_v11 ?_ | with_reducible refine s_u11 ?_ | with_reducible refine e_v12 ?_ | with_reducible refine g_v12 ?_ | with_reducible refine s_u12 ?_ | with_reducible refine e_v13 ?_ | with_reducible refine g_v13 ?_ | with_reducible refine s_u13 ?_ | with_reducible refine e_v14 ?_ | with_reducible refine g_v14 ?_ | with_reducible refine s_u14 ?_ | with_reducible refine e_v15 ?_ | with_reducible refine g_v15 ?_ | with_reducible refine s_u15 ?_ | with_reducible refine e_v16 ?_ | with_reducible refine g_v16 ?_ | with_reducible refine s_u16 ?_ | with_reducible refine e_v17 ?_ | with_reducible refine g_v17 ?_ | with_reducible refine s_u17 ?_ | with_reducible refine e_v18 ?_ | with_reducible refine g_v18 ?_ | with_reducible refine s_u18 ?_ | with_reducible refine e_v19 ?_ | with_reducible refine g_v19 ?_ | with_reducible refine s_u19 ?_ | ((with_reducible refine e_lc' (ρ' := ?rr) ?hw ?_); (case hw => (dsimp only [wipeW, List.map, List.set]; exact rfl))) | ((with_reducible refine g_tup ?hl ?_); (case hl => exact rfl)) | with_reducible refine b_mod (by first | decide | omega) ?_ | ((with_reducible refine b_pow (pow_ok (by decide) (by decide) (by decide)) ?_); simp only [Int.reduceToNat, Int.reducePow]) | with_reducible refine le_and (by simp only [List.length_cons, List.length_nil]; decide) ?_ | with_reducible refine l_intB ?_ | with_reducible refine l_intI ?_ | with_reducible refine sl_f ?_ | (refine l_len (by exact rfl) (q := ?_); skip) | (refine l_list (by exact rfl) ?_; skip) | (refine ix_t (by exact rfl) ?_; skip))

/-- a neighbour: name, purse, floor, ceiling -/
abbrev Nb := Str × Int × Int × Int
abbrev eN (x : Nb) : W := .tup [.str x.1, .int x.2.1, .int x.2.2.1, .int x.2.2.2]
structure TownOk (town : List Nb) : Prop where
  nd : (town.map (·.1)).Nodup
  nm : ∀ x ∈ town, Nme x.1
  bd : ∀ x ∈ town, -(10 ^ 30) ≤ x.2.2.1 ∧ x.2.2.1 ≤ x.2.1 ∧ x.2.1 ≤ x.2.2.2 ∧ x.2.2.2 ≤ 10 ^ 30
/-- an offer or a wish: name, skill, hours -/
abbrev En := Str × Str × Int
abbrev eO (x : En) : W := .tup [.str x.1, .str x.2.1, .int x.2.2]
structure DayOk (town : List Nb) (told : List En) : Prop where
  nd : (told.map fun x => (x.1, x.2.1)).Nodup
  nm : ∀ x ∈ told, x.1 ∈ town.map (·.1)
  sk : ∀ x ∈ told, Nme x.2.1
  bd : ∀ x ∈ told, 1 ≤ x.2.2 ∧ x.2.2 ≤ 10 ^ 30
def spTown : MP.Spec := fun ws S Q _ => ∃ ns a k n, ws = [iL ns, .ref a, .int (n : Nat)] ∧ ns.length ≤ 63 ∧ Ctr S a k 200 ∧ n ≤ 12 ∧
  ∀ (town : List Nb) k', town.length = n → TownOk town → k ≤ k' → k' ≤ k + 200 → Q (.lst (town.map eN)) (putC S a k')
theorem ok_town {Φ : Nat → MP.Spec} {i_names i_draw i_hours : Nat} (hs : Φ i_names = spNames) (hd : Φ i_draw = spDraw) (hh : Φ i_hours = spHours) {ws : List W} {S : Sto} {Q : WK} {X X0 : XC} (h : spTown ws S Q X) : wps Φ (c_town i_names i_draw i_hours) (startW N_town ws) S (dEnds Q X0) := by
  obtain ⟨ns, a, k, n, rfl, hn, ⟨ha, h0, h9⟩, hn2, q⟩ := h
  unfold c_town
  show wps Φ _ [some (iL ns), some (.ref a), some (.int (n : Nat)), none, none, none, none, none, none, none] S (dEnds Q X0)
  repeat' contradiction
  refine mk_t fun p hp => ?_
  have hpa : p ≠ a := ne_new ha hp
  have hal : ∀ {x o}, (sup (putC S a x) p o) a = some (.lst [.int x]) := fun {x o} => by rw [sup_ne hpa.symm]; exact sup_same
  repeat' contradiction
  rw [hs]
  refine ⟨ns, a, k, n, rfl, hn, ⟨(sup_ne hpa.symm).trans ha, h0, by omega⟩, by omega, fun xs x1 x2 x3 => ?_⟩
  rw [show putC (sup S p (.lst [])) a (k + 3) = sup (putC S a (k + 3)) p (.lst []) from sup_comm hpa]
  refine ⟨_, rfl, ?_⟩
  refine for_map (fun i ρ S' => ∃ (town : List Nb) (k' : Int) (r4 r5 r6 r7 r8 r9 : Option W), ρ = [some (iL ns), some (.ref a), some (.int (n : Nat)), some (.ref p), r4, r5, r6, r7, r8, r9] ∧ S' = sup (putC S a k') p (.lst (town.map eN)) ∧
      town.map (·.1) = xs.take i ∧ (∀ x ∈ town, -(10 ^ 30) ≤ x.2.2.1 ∧ x.2.2.1 ≤ x.2.1 ∧ x.2.1 ≤ x.2.2.2 ∧ x.2.2.2 ≤ 10 ^ 30) ∧ k ≤ k' ∧ k' ≤ k + 3 + 12 * i)
    ⟨[], k + 3, _, _, _, _, _, _, rfl, rfl, rfl, (fun x hx => nomatch hx), by omega, by omega⟩ (fun _ _ _ _ => rfl) (fun i x ρ S' hx h K hK => ?_) (fun ρ S' h => ?_)
  · obtain ⟨town, k', r4, r5, r6, r7, r8, r9, rfl, rfl, e1, e2, e3, e4⟩ := h
    have hi := (List.getElem?_eq_some_iff.mp hx).1
    have etl : town.length ≤ i := by
      have := congrArg List.length e1
      rw [List.length_map, List.length_take] at this
      omega
    repeat' contradiction
    rw [hd]
    refine u_draw hn hal (by omega) (by omega) (by decide) (by decide) (sup_swap hpa) fun g g0 g1 => ?_
    repeat' contradiction
    rw [hd]
    refine u_draw hn hal (by omega) (by omega) (by decide) (by decide) (sup_swap hpa) fun d d0 d1 => ?_
    repeat' contradiction
    rw [hd]
    refine u_draw hn hal (by omega) (by omega) (by decide) (by decide) (sup_swap hpa) fun f f0 f1 => ?_
    refine ix_pick (P := fun w => ∃ z : Int, w = .int z ∧ -(10 ^ 30) ≤ z ∧ z ≤ 10 ^ 30) f0 (by simp only [List.length_cons, List.length_nil]; omega) ?_ ?_
    · simp only [List.forall_mem_cons]
      refine ⟨?_, ?_, ?_, ?_, ?_, fun _ h => nomatch h⟩ <;> exact ⟨_, rfl, by omega, by omega⟩
    rintro _ ⟨pu, rfl, p1, p2⟩
    repeat' contradiction
    refine rg1 (by decide) ?_
    show wpLc _ _ _ _ _ [W.int (0 + (0 : Nat)), W.int (0 + (1 : Nat))] [] _ _
    refine lc_c0 trivial ?_
    repeat' contradiction
    rw [hh]
    refine u_hours hn hal (by omega) (by omega) (sup_swap hpa) fun b b0 b1 => ?_
    repeat' contradiction
    rw [hd]
    refine u_draw hn hal (by omega) (by omega) (by decide) (by decide) (sup_swap hpa) fun f f0 f1 => ?_
    refine ix_pick (P := fun w => ∃ z : Int, w = .int z ∧ 0 ≤ z) f0 (by simp only [List.length_cons, List.length_nil]; omega) ?_ ?_
    · simp only [List.forall_mem_cons]
      refine ⟨?_, ?_, ?_, ?_, fun _ h => nomatch h⟩ <;> exact ⟨_, rfl, by omega⟩
    rintro _ ⟨be, rfl, be0⟩
    refine ⟨lt_line (by show (0 : Nat) ≤ 10000; decide), lc_c0 trivial ?_⟩
    repeat' contradiction
    rw [hh]
    refine u_hours hn hal (by omega) (by omega) (sup_swap hpa) fun b b0 b1 => ?_
    repeat' contradiction
    rw [hd]
    refine u_draw hn hal (by omega) (by omega) (by decide) (by decide) (sup_swap hpa) fun f f0 f1 => ?_
    refine ix_pick (P := fun w => ∃ z : Int, w = .int z ∧ 0 ≤ z) f0 (by simp only [List.length_cons, List.length_nil]; omega) ?_ ?_
    · simp only [List.forall_mem_cons]
      refine ⟨?_, ?_, ?_, ?_, fun _ h => nomatch h⟩ <;> exact ⟨_, rfl, by omega⟩
    rintro _ ⟨ov, rfl, ov0⟩
    refine ⟨lt_line (by show (1 : Nat) ≤ 10000; decide), lc_n trivial ?_⟩
    repeat' contradiction
    refine g_lst rfl rfl ?_
    show (wp Φ _).gs [W.int be, W.int ov] _ _ _
    repeat' contradiction
    refine m_rcv rfl sup_same ?_
    repeat' contradiction
    refine l_max2 fun mx hmx => ?_
    repeat' contradiction
    refine l_min2 fun mn hmn => ?_
    repeat' contradiction
    refine m_app sup_same (lt_line (by rw [List.length_map]; omega)) ?_
    repeat' contradiction
    rw [sup_sup]
    refine hK _ _ ⟨town ++ [(x, pu, mx, mn)], k' + 11, _, _, _, _, _, _, rfl, ?_, ?_, ?_, by omega, by omega⟩
    · rw [List.map_append, show k' + 1 + 1 + 1 + 3 + 1 + 3 + 1 = k' + 11 by omega]; rfl
    · rw [List.map_append, e1, List.take_add_one, hx]; rfl
    · intro y hy
      rcases List.mem_append.mp hy with hy | hy
      · exact e2 y hy
      · rw [List.mem_singleton.mp hy]
        show _ ≤ mx ∧ mx ≤ pu ∧ pu ≤ mn ∧ mn ≤ _
        omega
  · obtain ⟨town, k', r4, r5, r6, r7, r8, r9, rfl, rfl, e1, e2, e3, e4⟩ := h
    rw [List.take_length] at e1
    repeat' contradiction
    refine s_gf3 sup_same ?_
    repeat' contradiction
    rw [sdel_sup (S := putC S a k') ((sup_ne hpa).trans hp)]
    refine d_same (q town k' ?_ ⟨e1 ▸ x2, fun x hx => x3 _ (e1 ▸ List.mem_map.mpr ⟨x, hx, rfl⟩), e2⟩ (by omega) (by omega))
    have := congrArg List.length e1
    rw [List.length_map] at this
    omega
def spSkills : MP.Spec := fun ws S Q _ => ∃ os us : List En, ws = [.tup [.lst (os.map eO), .lst (us.map eO)]] ∧ os.length + us.length ≤ 100 ∧
  ∀ sk : List Str, (∀ s, s ∈ sk ↔ ∃ x ∈ os ++ us, x.2.1 = s) → sk.length ≤ os.length + us.length → Q (.lst (sk.map W.str)) S
theorem prK_map {α : Type} (f : α → Str) (g : α → W) : ∀ xs : List α, prK (xs.map fun x => W.tup [.str (f x), g x]) = some (xs.map fun x => ((.inr (f x) : Key), g x))
  | [] => rfl
  | x :: xs => by
    show (keyW (.str (f x))).bind _ = _
    rw [prK_map f g xs]
    rfl
theorem strKeys : ∀ {kvs : List (Key × W)}, (∀ j ∈ kvs.map (·.1), ∃ s : Str, j = .inr s) → ∃ sk : List Str, kvs.map (·.1) = sk.map Sum.inr ∧ (kvs.map fun kv => wKey kv.1) = sk.map W.str
  | [], _ => ⟨[], rfl, rfl⟩
  | (j, w) :: kvs, h => by
    obtain ⟨sk, h1, h2⟩ := strKeys (kvs := kvs) fun j hj => h j (List.mem_cons_of_mem _ hj)
    obtain ⟨s, e⟩ := h j (List.mem_cons_self ..)
    subst e
    exact ⟨s :: sk, by rw [List.map_cons, h1]; rfl, by rw [List.map_cons, h2]; rfl⟩
theorem ok_skills {Φ : Nat → MP.Spec} {ws : List W} {S : Sto} {Q : WK} {X X0 : XC} (h : spSkills ws S Q X) : wps Φ (c_skills) (startW N_skills ws) S (dEnds Q X0) := by
  obtain ⟨os, us, rfl, hl, q⟩ := h
  unfold c_skills
  show wps Φ _ [some (.tup [.lst (os.map eO), .lst (us.map eO)]), none] S (dEnds Q X0)
  repeat' contradiction
  refine b_cat rfl rfl (le_line (by rw [List.length_map, List.length_map]; omega)) ?_
  repeat' contradiction
  refine ⟨_, rfl, ?_⟩
  rw [← List.map_append]
  refine lc_mp (fun x : En => W.tup [.str x.2.1, .bl true]) rfl (le_line (by rw [List.length_append]; omega)) (fun x _ K hK => ?_) ?_
  · repeat' contradiction
    exact hK
  repeat' contradiction
  refine l_dictK rfl (prK_map (fun x : En => x.2.1) (fun _ => .bl true) _) fun p hp => ?_
  repeat' contradiction
  refine l_listK sup_same ?_
  obtain ⟨sk, h1, h2⟩ := strKeys (kvs := putsW [] ((os ++ us).map fun x => ((.inr x.2.1 : Key), W.bl true))) fun j hj => by
    rcases puts_keys.mp hj with z | z
    · cases z
    · obtain ⟨y, hy, rfl⟩ := List.mem_map.mp z
      obtain ⟨x, hx, rfl⟩ := List.mem_map.mp hy
      exact ⟨_, rfl⟩
  rw [h2]
  repeat' contradiction
  refine d_ret (fewer_sup hp) (q sk (fun s => ?_) ?_)
  · have : (Sum.inr s : Key) ∈ (putsW [] ((os ++ us).map fun x => ((.inr x.2.1 : Key), W.bl true))).map (·.1) ↔ s ∈ sk := by
      rw [h1, List.mem_map]
      exact ⟨fun ⟨t, ht, e⟩ => by cases e; exact ht, fun h => ⟨s, h, rfl⟩⟩
    rw [← this, puts_keys, List.map_map]
    constructor
    · rintro (z | z)
      · cases z
      · obtain ⟨x, hx, e⟩ := List.mem_map.mp z
        have e : (Sum.inr x.2.1 : Key) = .inr s := e
        cases e
        exact ⟨x, hx, rfl⟩
    · rintro ⟨x, hx, rfl⟩
      exact .inr (List.mem_map.mpr ⟨x, hx, rfl⟩)
  · have e1 := congrArg List.length h1
    have e2 := puts_len (acc := []) (more := (os ++ us).map fun x => ((.inr x.2.1 : Key), W.bl true))
    rw [List.length_map, List.length_map] at e1
    rw [List.length_map, List.length_append, List.length_nil] at e2
    omega
end LG

set_option Elab.async false
set_option linter.all false
set_option maxRecDepth 100000
set_option maxHeartbeats 4000000
/-! LH: days and papers. -/
namespace LH
open PySem PySem.Spec PyProof.Rows L2 MP NM DK LF LG
local macro_rules
  | `(tactic| contradiction) => `(tactic| first | with_reducible refine d_in ?_ | with_reducible refine s_nil ?_ | with_reducible refine s_seq ?_ | with_reducible refine s_asg ?_ | with_reducible refine s_par ?_ | with_reducible refine s_expr ?_ | with_reducible refine s_ret ?_ | with_reducible refine s_retN ?_ | with_reducible refine s_iff ?_ | with_reducible refine s_fr ?_ | with_reducible refine s_cont ?_ | with_reducible refine s_brk ?_ | with_reducible refine s_pass ?_ | with_reducible refine s_augS ?_ | with_reducible refine e_int ?_ | with_reducible refine e_str ?_ | with_reducible refine e_bool ?_ | with_reducible refine e_none ?_ | with_reducible refine e_bin ?_ | with_reducible refine e_neg ?_ | with_reducible refine e_nt ?_ | with_reducible refine e_cmp ?_ | with_reducible refine e_chain ?_ | with_reducible refine e_an ?_ | with_reducible refine e_or ?_ | with_reducible refine an_1 ?_ | with_reducible refine an_2 ?_ | with_reducible refine or_1 ?_ | with_reducible refine or_2 ?_ | with_reducible refine e_ife ?_ | with_reducible refine e_call ?_ | with_reducible refine e_blt ?_ | with_reducible refine e_mth ?_ | with_reducible refine e_idx ?_ | with_reducible refine e_slc ?_ | with_reducible refine e_rev ?_ | with_reducible refine e_tup ?_ | with_reducible refine e_lst ?_ | with_reducible refine e_dnew ?_ | with_reducible refine e_dct ?_ | with_reducible refine e_isi ?_ | with_reducible refine e_lrg ?_ | with_reducible refine e_lzip ?_ | with_reducible refine e_stp ?_ | with_reducible refine e_sset ?_ | with_reducible refine es_n ?_ | with_reducible refine es_c ?_ | with_reducible refine o_nil ?_ | with_reducible refine o_var ?_ | with_reducible refine o_cst ?_ | with_reducible refine o_bin ?_ | with_reducible refine o_neg ?_ | with_reducible refine o_blt ?_ | with_reducible refine o_call ?_ | with_reducible refine ik ?_ | with_reducible refine ng ?_ | with_reducible refine tq_bl ?_ | with_reducible refine tq_int ?_ | with_reducible refine tq_non ?_ | with_reducible refine tq_lst ?_ | with_reducible refine tq_tup ?_ | with_reducible refine t_var ?_ | with_reducible refine t_call ?_ | with_reducible refine t_blt ?_ | with_reducible refine t_mth ?_ | with_reducible refine t_idx ?_ | with_reducible refine t_isi ?_ | with_reducible refine t_cst ?_ | with_reducible refine t_nt ?_ | with_reducible refine t_cmp ?_ | with_reducible refine t_chain ?_ | with_reducible refine t_an ?_ | with_reducible refine t_or ?_ | with_reducible refine ant_1 ?_ | with_reducible refine ant_2 ?_ | with_reducible refine ort_1 ?_ | with_reducible refine ort_2 ?_ | with_reducible refine tr_bl ?_ | with_reducible refine tr_int ?_ | with_reducible refine tr_lst ?_ | with_reducible refine tr_non ?_ | with_reducible refine c_nil ?_ | with_reducible refine c_one ?_ | with_reducible refine g_sub ?_ | with_reducible refine gs_n ?_ | with_reducible refine gs_c ?_ | with_reducible refine i_seq ?_ | with_reducible refine i_rng1 ?_ | with_reducible refine i_rng2 ?_ | with_reducible refine i_rng3 ?_ | with_reducible refine i_zip ?_ | with_reducible refine i_enm ?_ | with_reducible refine b_add ?_ | with_reducible refine b_sub ?_ | with_reducible refine c_lt ?_ | with_reducible refine c_le ?_ | with_reducible refine c_gt ?_ | with_reducible refine c_ge ?_ | with_reducible refine mk_f ?_ | with_reducible refine ref_and ?_ | with_reducible refine u_set ?_ | with_reducible refine eq_i ?_ | with_reducible refine ne_i ?_ | with_reducible refine eq_b ?_ | with_reducible refine ne_b ?_ | with_reducible refine is_b ?_ | with_reducible refine isn_b ?_ | with_reducible refine is_n ?_ | with_reducible refine isn_n ?_ | with_reducible refine e_v0 ?_ | with_reducible refine g_v0 ?_ | with_reducible refine s_u0 ?_ | with_reducible refine e_v1 ?_ | with_reducible refine g_v1 ?_ | with_reducible refine s_u1 ?_ | with_reducible refine e_v2 ?_ | with_reducible refine g_v2 ?_ | with_reducible refine s_u2 ?_ | with_reducible refine e_v3 ?_ | with_reducible refine g_v3 ?_ | with_reducible refine s_u3 ?_ | with_reducible refine e_v4 ?_ | with_reducible refine g_v4 ?_ | with_reducible refine s_u4 ?_ | with_reducible refine e_v5 ?_ | with_reducible refine g_v5 ?_ | with_reducible refine s_u5 ?_ | with_reducible refine e_v6 ?_ | with_reducible refine g_v6 ?_ | with_reducible refine s_u6 ?_ | with_reducible refine e_v7 ?_ | with_reducible refine g_v7 ?_ | with_reducible refine s_u7 ?_ | with_reducible refine e_v8 ?_ | with_reducible refine g_v8 ?_ | with_reducible refine s_u8 ?_ | with_reducible refine e_v9 ?_ | with_reducible refine g_v9 ?_ | with_reducible refine s_u9 ?_ | with_reducible refine e_v10 ?_ | with_reducible refine g_v10 ?_ | with_reducible refine s_u10 ?_ | with_reducible refine e_v11 ?_ | with_reducible refine g_v11 ?_ | with_reducible refine s_u11 ?_ | with_reducible refine e_v12 ?_ | with_reducible refine g_v12 ?_ | with_reducible refine s_u12 ?_ | with_reducible refine e_v13 ?_ | with_reducible refine g_v13 ?_ | with_reducible refine s_u13 ?_ | with_reducible refine e_v14 ?_ | with_reducible refine g_v14 ?_ | with_reducible refine s_u14 ?_ | with_reducible refine e_v15 ?_ | with_reducible refine g_v15 ?_ | with_reducible refine s_u15 ?_ | with_reducible refine e_v16 ?_ | with_reducible refine g_v16 ?_ | with_reducible refine s_u16 ?_ | with_reducible refine e_v17 ?_ | with_reducible refine g_v17 ?_ | with_reducible refine s_u17 ?_ | with_reducible refine e_v18 ?_ | with_reducible refine g_v18 ?_ | with_reducible refine s_u18 ?_ | with_reducible refine e_v19 ?_ | with_reducible refine g_v19 ?_ | with_reducible refine s_u19 ?_ | ((with_reducible refine e_lc' (ρ' := ?rr) ?hw ?_); (case hw => (dsimp only [wipeW, List.map, List.set]; exact rfl))) | ((with_reducible refine g_tup ?hl ?_); (case hl => exact rfl)) | with_reducible refine b_mod (by first | decide | omega) ?_ | ((with_reducible refine b_pow (pow_ok (by decide) (by decide) (by decide)) ?_); simp only [Int.reduceToNat, Int.reducePow]) | with_reducible refine le_and (by simp only [List.length_cons, List.length_nil]; decide) ?_ | with_reducible refine l_intB ?_ | with_reducible refine l_intI ?_ | with_reducible refine sl_f ?_ | (refine l_len (by exact rfl) (q := ?_); skip) | (refine l_list (by exact rfl) ?_; skip) | (refine ix_t (by exact rfl) ?_; skip))

theorem _root_.LG.DayOk.add {town : List Nb} {told told' : List En} {x : En} (h : DayOk town told) (h1 : x.1 ∈ town.map (·.1)) (h2 : Nme x.2.1) (h3 : 1 ≤ x.2.2 ∧ x.2.2 ≤ 10 ^ 30) (h4 : (x.1, x.2.1) ∉ told.map fun x => (x.1, x.2.1)) (hp : told'.Perm (x :: told)) : DayOk town told' := by
  have m : ∀ y, y ∈ told' → y = x ∨ y ∈ told := fun y hy => List.mem_cons.mp (hp.mem_iff.mp hy)
  refine ⟨?_, fun y hy => ?_, fun y hy => ?_, fun y hy => ?_⟩
  · rw [(hp.map _).nodup_iff, List.map_cons, List.nodup_cons]
    exact ⟨h4, h.nd⟩
  · rcases m y hy with rfl | hy
    · exact h1
    · exact h.nm y hy
  · rcases m y hy with rfl | hy
    · exact h2
    · exact h.sk y hy
  · rcases m y hy with rfl | hy
    · exact h3
    · exact h.bd y hy
def spDay : MP.Spec := fun ws S Q _ => ∃ (ns : List Int) (a : Addr) (k : Int) (town : List Nb) (m : Nat), ws = [iL ns, .ref a, .lst (town.map eN), .int (m : Nat)] ∧ ns.length ≤ 63 ∧ Ctr S a k 1000 ∧ m ≤ 40 ∧ TownOk town ∧ town.length ≤ 12 ∧
  ∀ (os us : List En) k', DayOk town (os ++ us) → os.length + us.length ≤ m → k ≤ k' → k' ≤ k + 500 → Q (.tup [.lst (os.map eO), .lst (us.map eO)]) (putC S a k')
theorem _root_.LF.Nme.can {x : Str} (h : Nme x) : (PyData.str x).canLay0 = true := h.nm.can
theorem pln_nb {x : Nb} (h : Nme x.1) : Pln 1 (eN x) := .tup 0 _ fun w hw => by
  simp only [List.mem_cons, List.not_mem_nil, or_false] at hw
  rcases hw with rfl | rfl | rfl | rfl
  · exact .str 0 _ h.can
  · exact .int 0 _
  · exact .int 0 _
  · exact .int 0 _
theorem pln_en {x : En} (h : Nme x.1) (h2 : Nme x.2.1) : Pln 1 (eO x) := .tup 0 _ fun w hw => by
  simp only [List.mem_cons, List.not_mem_nil, or_false] at hw
  rcases hw with rfl | rfl | rfl
  · exact .str 0 _ h.can
  · exact .str 0 _ h2.can
  · exact .int 0 _
theorem ok_day {Φ : Nat → MP.Spec} {i_names i_draw i_hours : Nat} (hs : Φ i_names = spNames) (hd : Φ i_draw = spDraw) (hh : Φ i_hours = spHours) {ws : List W} {S : Sto} {Q : WK} {X X0 : XC} (h : spDay ws S Q X) : wps Φ (c_day i_names i_draw i_hours) (startW N_day ws) S (dEnds Q X0) := by
  obtain ⟨ns, a, k, town, m, rfl, hn, ⟨ha, h0, h9⟩, hm, hT, hl, q⟩ := h
  unfold c_day
  show wps Φ _ [some (iL ns), some (.ref a), some (.lst (town.map eN)), some (.int (m : Nat)), none, none, none, none, none, none, none, none] S (dEnds Q X0)
  repeat' contradiction
  rw [hd]
  refine u_draw hn ha h0 (by omega) (by decide) (by decide) rfl fun v v0 v1 => ?_
  repeat' contradiction
  rw [hs]
  refine ⟨ns, a, k + 1, (1 + v).toNat, by rw [Int.toNat_of_nonneg (by omega)], hn, ⟨sup_same, by omega, by omega⟩, by omega, fun xs x1 x2 x3 => ?_⟩
  rw [show putC (putC S a (k + 1)) a (k + 1 + 3) = putC S a (k + 4) by rw [show k + 1 + 3 = k + 4 by omega]; exact sup_sup]
  repeat' contradiction
  refine mk_t fun p hp => ?_
  repeat' contradiction
  refine mk_t fun q1 hq1 => ?_
  repeat' contradiction
  intro r hr
  rw [if_pos rfl]
  have hpa : p ≠ a := ne_new sup_same hp
  have hSp : S p = none := by rw [← sup_ne (S := S) (o := .lst [.int (k + 4)]) hpa]; exact hp
  have hqp : q1 ≠ p := ne_new sup_same hq1
  have hqa : q1 ≠ a := ne_new (S := sup (putC S a (k + 4)) p (.lst [])) (by rw [sup_ne hpa.symm]; exact sup_same) hq1
  have hSq : S q1 = none := by
    rw [sup_ne hqp] at hq1; exact (sup_ne hqa).symm.trans hq1
  have hrq : r ≠ q1 := ne_new sup_same hr
  rw [sup_ne hrq] at hr
  have hrp : r ≠ p := ne_new sup_same hr
  rw [sup_ne hrp] at hr
  have hra : r ≠ a := ne_new sup_same hr
  replace hr := (sup_ne hra).symm.trans hr
  repeat' contradiction
  have hF : Fewer (putC S a (k + 4)) (sup (sup (sup (putC S a (k + 4)) p (.lst [])) q1 (.lst [])) r (.dt [])) :=
    fewer_more (fewer_more (fewer_more fewer_rfl (none_sup hSp hpa)) (none_sup hSq hqa)) (none_sup hr hra)
  have hA : (sup (sup (sup (putC S a (k + 4)) p (.lst [])) q1 (.lst [])) r (.dt [])) a = some (.lst [.int (k + 4)]) := by
    rw [sup_ne hra.symm, sup_ne hqa.symm, sup_ne hpa.symm]; exact sup_same
  have hP : (sup (sup (sup (putC S a (k + 4)) p (.lst [])) q1 (.lst [])) r (.dt [])) p = some (.lst []) := by
    rw [sup_ne hrp.symm, sup_ne hqp.symm]; exact sup_same
  have hQ : (sup (sup (sup (putC S a (k + 4)) p (.lst [])) q1 (.lst [])) r (.dt [])) q1 = some (.lst []) := by
    rw [sup_ne hrq.symm]; exact sup_same
  have hR : (sup (sup (sup (putC S a (k + 4)) p (.lst [])) q1 (.lst [])) r (.dt [])) r = some (.dt []) := sup_same
  generalize sup (sup (sup (putC S a (k + 4)) p (.lst [])) q1 (.lst [])) r (.dt []) = S0 at hF hA hP hQ hR ⊢
  rw [hd]
  refine u_draw hn hA (by omega) (by omega) (by omega) (by omega) rfl fun many m0 m1 => ?_
  repeat' contradiction
  refine ne_p (pln_map fun x hx => pln_nb (hT.nm x hx)) (.lst 0 [] fun w h => nomatch h) fun b hb => ?_
  repeat' contradiction
  have hc : (if b = true then (1 : Int) else 0) = if town = [] then 0 else 1 := by
    by_cases c : town = []
    · rw [if_pos c, if_neg (fun z => hb.mp z (by rw [c]; rfl))]
    · rw [if_neg c, if_pos (hb.mpr fun z => c (by injection z with z; exact List.map_eq_nil_iff.mp z))]
  generalize (if b = true then (1 : Int) else 0) = c at hc ⊢
  have hc2 : c = 0 ∨ c = 1 := by rw [hc]; split <;> simp
  refine b_mul (mul_ok (by omega) (by omega)) ?_
  have hmc : 0 ≤ many * c ∧ many * c ≤ m := by rcases hc2 with rfl | rfl <;> omega
  have hne : 0 < many * c → town ≠ [] := fun h e => by rw [hc, if_pos e] at h; omega
  generalize many * c = N at hmc hne ⊢
  refine rg1 (by omega) ?_
  refine for_rng (fun i ρ S' => ∃ (os us : List En) (seen : List (List Key × W)) (k' : Int) (r7 r8 r9 r10 r11 : Option W),
      ρ = [some (iL ns), some (.ref a), some (.lst (town.map eN)), some (.int (m : Nat)), some (.lst (xs.map W.str)), some (.tup [.ref p, .ref q1]), some (.ref r), r7, r8, r9, r10, r11] ∧
      S' a = some (.lst [.int k']) ∧ S' p = some (.lst (os.map eO)) ∧ S' q1 = some (.lst (us.map eO)) ∧ S' r = some (.dt seen) ∧ Fewer (putC S a k') S' ∧ DayOk town (os ++ us) ∧
      (∀ x y, [Sum.inr x, Sum.inr y] ∈ seen.map (·.1) ↔ (x, y) ∈ (os ++ us).map fun x => (x.1, x.2.1)) ∧ seen.length ≤ i ∧ os.length + us.length ≤ i ∧ k + 5 ≤ k' ∧ k' ≤ k + 5 + 8 * i)
    ⟨[], [], [], k + 5, _, _, _, _, _, rfl, ?_, ?_, ?_, ?_, ?_, ⟨List.nodup_nil, (fun _ h => nomatch h), (fun _ h => nomatch h), (fun _ h => nomatch h)⟩, fun x y => ⟨(fun h => nomatch h), (fun h => nomatch h)⟩, Nat.le_refl _, Nat.le_refl _, by omega, by omega⟩ (fun _ _ _ _ => trivial) (fun i ρ S' hi h K hK => ?_) (fun ρ S' h => ?_)
  · rw [show k + 4 + 1 = k + 5 by omega]; exact sup_same
  · exact (sup_ne hpa).trans hP
  · exact (sup_ne hqa).trans hQ
  · exact (sup_ne hra).trans hR
  · have := fewer_put (a := a) (o := .lst [.int (k + 4 + 1)]) hF
    rw [sup_sup] at this
    rw [show k + 5 = k + 4 + 1 by omega]
    exact this
  · obtain ⟨os, us, seen, k', r7, r8, r9, r10, r11, rfl, hA, hP, hQ, hR, hF, hD, hS, e1, e2, e3, e4⟩ := h
    have hTn := hne (by omega)
    have hT0 : 0 < town.length := List.length_pos_iff.mpr hTn
    repeat' contradiction
    rw [List.length_map, hd]
    refine u_draw hn hA (by omega) (by omega) (by omega) (by omega) rfl fun d d0 d1 => ?_
    obtain ⟨x, hx⟩ : ∃ x, town[d.toNat]? = some x := ⟨town[d.toNat]'(by omega), List.getElem?_eq_getElem _⟩
    refine ix_map d0 hx ?_
    repeat' contradiction
    rw [List.length_map, hd]
    refine u_draw hn sup_same (by omega) (by omega) (by omega) (by omega) sup_sup fun d2 d20 d21 => ?_
    obtain ⟨y, hy⟩ : ∃ y, xs[d2.toNat]? = some y := ⟨xs[d2.toNat]'(by omega), List.getElem?_eq_getElem _⟩
    refine ix_map d20 hy ?_
    repeat' contradiction
    rw [hd]
    refine u_draw hn sup_same (by omega) (by omega) (by omega) (by omega) sup_sup fun sd s0 s1 => ?_
    repeat' contradiction
    rw [hh]
    refine u_hours hn sup_same (by omega) (by omega) sup_sup fun ho h1 h2 => ?_
    repeat' contradiction
    refine ⟨rfl, ?_⟩
    dsimp only [setAll, List.set]
    rw [show k' + 1 + 1 + 1 + 3 = k' + 6 by omega]
    have hF2 : Fewer (putC S a (k' + 6)) (sup S' a (.lst [.int (k' + 6)])) := by
      have := fewer_put (a := a) (o := .lst [.int (k' + 6)]) hF
      rw [sup_sup] at this
      exact this
    have hR2 : sup S' a (.lst [.int (k' + 6)]) r = some (.dt seen) := (sup_ne hra).trans hR
    have hP2 : sup S' a (.lst [.int (k' + 6)]) p = some (.lst (os.map eO)) := (sup_ne hpa).trans hP
    have hQ2 : sup S' a (.lst [.int (k' + 6)]) q1 = some (.lst (us.map eO)) := (sup_ne hqa).trans hQ
    have hA2 : sup S' a (.lst [.int (k' + 6)]) a = some (.lst [.int (k' + 6)]) := sup_same
    generalize sup S' a (.lst [.int (k' + 6)]) = S2 at hF2 hR2 hP2 hQ2 hA2 ⊢
    repeat' contradiction
    refine notin_dt hR2 (keys_ss _ _) ?_
    have hxm : x ∈ town := List.mem_of_getElem? hx
    have hym : y ∈ xs := List.mem_of_getElem? hy
    by_cases hin : (x.1, y) ∈ (os ++ us).map fun x => (x.1, x.2.1)
    · obtain ⟨w, hw⟩ := get_some.mpr ((hS x.1 y).mpr hin)
      rw [hw]
      refine LD.ite_d (p := False) (fun z => z.elim) fun _ => ?_
      repeat' contradiction
      exact hK _ _ ⟨os, us, seen, k' + 6, _, _, _, _, _, rfl, hA2, hP2, hQ2, hR2, hF2, hD, hS, by omega, by omega, by omega, by omega⟩
    · have hno := get_none.mpr fun z => hin ((hS x.1 y).mp z)
      rw [hno]
      refine LD.ite_d (p := True) (fun _ => ?_) fun z => absurd trivial z
      repeat' contradiction
      refine st_dt hR2 (keys_ss _ _) (lt_line (by omega)) ?_
      repeat' contradiction
      have hS3 : ∀ x' y', [Sum.inr x', Sum.inr y'] ∈ (setK seen [Sum.inr x.1, Sum.inr y] (.bl true)).map (·.1) ↔ (x', y') = (x.1, y) ∨ (x', y') ∈ (os ++ us).map fun x => (x.1, x.2.1) := fun x' y' => by
        rw [set_mem, hS, or_comm]
        constructor
        · rintro (z | z)
          · exact .inl (by injection z with z1 z2; injection z2 with z2 _; injection z1 with z1; injection z2 with z2; rw [z1, z2])
          · exact .inr z
        · rintro (z | z)
          · exact .inl (by injection z with z1 z2; rw [z1, z2])
          · exact .inr z
      have hl3 := set_len (kvs := seen) (k := [Sum.inr x.1, Sum.inr y]) (v := .bl true)
      have hR3 : sup S2 r (.dt (setK seen [Sum.inr x.1, Sum.inr y] (.bl true))) r = some (.dt (setK seen [Sum.inr x.1, Sum.inr y] (.bl true))) := sup_same
      have hP3 : sup S2 r (.dt (setK seen [Sum.inr x.1, Sum.inr y] (.bl true))) p = some (.lst (os.map eO)) := (sup_ne hrp.symm).trans hP2
      have hQ3 : sup S2 r (.dt (setK seen [Sum.inr x.1, Sum.inr y] (.bl true))) q1 = some (.lst (us.map eO)) := (sup_ne hrq.symm).trans hQ2
      have hA3 : sup S2 r (.dt (setK seen [Sum.inr x.1, Sum.inr y] (.bl true))) a = some (.lst [.int (k' + 6)]) := (sup_ne hra.symm).trans hA2
      have hF3 : Fewer (putC S a (k' + 6)) (sup S2 r (.dt (setK seen [Sum.inr x.1, Sum.inr y] (.bl true)))) := fewer_more hF2 (none_sup hr hra)
      generalize setK seen [Sum.inr x.1, Sum.inr y] (.bl true) = seen' at hS3 hl3 hR3 hP3 hQ3 hA3 hF3 ⊢
      generalize sup S2 r (.dt seen') = S3 at hR3 hP3 hQ3 hA3 hF3 ⊢
      have hsd : sd = 0 ∨ sd = 1 := by omega
      rcases hsd with rfl | rfl
      · refine ix_t rfl ?_
        refine m_rcv rfl hP3 ?_
        repeat' contradiction
        refine m_app hP3 (lt_line (by rw [List.length_map]; omega)) ?_
        repeat' contradiction
        have hperm : (os ++ [(x.1, y, ho)] ++ us).Perm ((x.1, y, ho) :: (os ++ us)) := by
          rw [List.append_assoc]; exact List.perm_middle
        refine hK _ _ ⟨os ++ [(x.1, y, ho)], us, seen', k' + 6, _, _, _, _, _, rfl, (sup_ne hpa.symm).trans hA3, by rw [List.map_append]; exact sup_same, (sup_ne hqp).trans hQ3, (sup_ne hrp).trans hR3, fewer_more hF3 (none_sup hSp hpa),
          hD.add (x := (x.1, y, ho)) (List.mem_map.mpr ⟨x, hxm, rfl⟩) (x3 y hym) ⟨h1, h2⟩ hin hperm, fun x' y' => ?_, by omega, by rw [List.length_append]; simp; omega, by omega, by omega⟩
        rw [hS3, (hperm.map _).mem_iff, List.map_cons, List.mem_cons]
      · refine ix_t rfl ?_
        refine m_rcv rfl hQ3 ?_
        repeat' contradiction
        refine m_app hQ3 (lt_line (by rw [List.length_map]; omega)) ?_
        repeat' contradiction
        have hperm : (os ++ (us ++ [(x.1, y, ho)])).Perm ((x.1, y, ho) :: (os ++ us)) := by
          rw [← List.append_assoc]; exact (List.perm_append_comm (l₁ := os ++ us) (l₂ := [(x.1, y, ho)]))
        refine hK _ _ ⟨os, us ++ [(x.1, y, ho)], seen', k' + 6, _, _, _, _, _, rfl, (sup_ne hqa.symm).trans hA3, (sup_ne hqp.symm).trans hP3, by rw [List.map_append]; exact sup_same, (sup_ne hrq).trans hR3, fewer_more hF3 (none_sup hSq hqa),
          hD.add (x := (x.1, y, ho)) (List.mem_map.mpr ⟨x, hxm, rfl⟩) (x3 y hym) ⟨h1, h2⟩ hin hperm, fun x' y' => ?_, by omega, by rw [List.length_append]; simp; omega, by omega, by omega⟩
        rw [hS3, (hperm.map _).mem_iff, List.map_cons, List.mem_cons]
  · obtain ⟨os, us, seen, k', r7, r8, r9, r10, r11, rfl, hA, hP, hQ, hR, hF, hD, hS, e1, e2, e3, e4⟩ := h
    repeat' contradiction
    refine s_gfr2 rfl hP hQ hqp.symm ?_
    dsimp only [List.set]
    repeat' contradiction
    exact d_ret (fewer_del (fewer_del hF (none_sup hSp hpa)) (none_sup hSq hqa)) (q os us k' hD (by omega) (by omega) (by omega))
end LH

set_option Elab.async false
set_option linter.all false
set_option maxRecDepth 100000
set_option maxHeartbeats 4000000
/-! LI: papers of prices. -/
namespace LI
open PySem PySem.Spec PyProof.Rows L2 MP NM DK LF LG LH
local macro_rules
  | `(tactic| contradiction) => `(tactic| first | with_reducible refine d_in ?_ | with_reducible refine s_nil ?_ | with_reducible refine s_seq ?_ | with_reducible refine s_asg ?_ | with_reducible refine s_par ?_ | with_reducible refine s_expr ?_ | with_reducible refine s_ret ?_ | with_reducible refine s_retN ?_ | with_reducible refine s_iff ?_ | with_reducible refine s_fr ?_ | with_reducible refine s_cont ?_ | with_reducible refine s_brk ?_ | with_reducible refine s_pass ?_ | with_reducible refine s_augS ?_ | with_reducible refine e_int ?_ | with_reducible refine e_str ?_ | with_reducible refine e_bool ?_ | with_reducible refine e_none ?_ | with_reducible refine e_bin ?_ | with_reducible refine e_neg ?_ | with_reducible refine e_nt ?_ | with_reducible refine e_cmp ?_ | with_reducible refine e_chain ?_ | with_reducible refine e_an ?_ | with_reducible refine e_or ?_ | with_reducible refine an_1 ?_ | with_reducible refine an_2 ?_ | with_reducible refine or_1 ?_ | with_reducible refine or_2 ?_ | with_reducible refine e_ife ?_ | with_reducible refine e_call ?_ | with_reducible refine e_blt ?_ | with_reducible refine e_mth ?_ | with_reducible refine e_idx ?_ | with_reducible refine e_slc ?_ | with_reducible refine e_rev ?_ | with_reducible refine e_tup ?_ | with_reducible refine e_lst ?_ | with_reducible refine e_dnew ?_ | with_reducible refine e_dct ?_ | with_reducible refine e_isi ?_ | with_reducible refine e_lrg ?_ | with_reducible refine e_lzip ?_ | with_reducible refine e_stp ?_ | with_reducible refine e_sset ?_ | with_reducible refine es_n ?_ | with_reducible refine es_c ?_ | with_reducible refine o_nil ?_ | with_reducible refine o_var ?_ | with_reducible refine o_cst ?_ | with_reducible refine o_bin ?_ | with_reducible refine o_neg ?_ | with_reducible refine o_blt ?_ | with_reducible refine o_call ?_ | with_reducible refine ik ?_ | with_reducible refine ng ?_ | with_reducible refine tq_bl ?_ | with_reducible refine tq_int ?_ | with_reducible refine tq_non ?_ | with_reducible refine tq_lst ?_ | with_reducible refine tq_tup ?_ | with_reducible refine t_var ?_ | with_reducible refine t_call ?_ | with_reducible refine t_blt ?_ | with_reducible refine t_mth ?_ | with_reducible refine t_idx ?_ | with_reducible refine t_isi ?_ | with_reducible refine t_cst ?_ | with_reducible refine t_nt ?_ | with_reducible refine t_cmp ?_ | with_reducible refine t_chain ?_ | with_reducible refine t_an ?_ | with_reducible refine t_or ?_ | with_reducible refine ant_1 ?_ | with_reducible refine ant_2 ?_ | with_reducible refine ort_1 ?_ | with_reducible refine ort_2 ?_ | with_reducible refine tr_bl ?_ | with_reducible refine tr_int ?_ | with_reducible refine tr_lst ?_ | with_reducible refine tr_non ?_ | with_reducible refine c_nil ?_ | with_reducible refine c_one ?_ | with_reducible refine g_sub ?_ | with_reducible refine gs_n ?_ | with_reducible refine gs_c ?_ | with_reducible refine i_seq ?_ | with_reducible refine i_rng1 ?_ | with_reducible refine i_rng2 ?_ | with_reducible refine i_rng3 ?_ | with_reducible refine i_zip ?_ | with_reducible refine i_enm ?_ | with_reducible refine b_add ?_ | with_reducible refine b_sub ?_ | with_reducible refine c_lt ?_ | with_reducible refine c_le ?_ | with_reducible refine c_gt ?_ | with_reducible refine c_ge ?_ | with_reducible refine mk_f ?_ | with_reducible refine ref_and ?_ | with_reducible refine u_set ?_ | with_reducible refine eq_i ?_ | with_reducible refine ne_i ?_ | with_reducible refine eq_b ?_ | with_reducible refine ne_b ?_ | with_reducible refine is_b ?_ | with_reducible refine isn_b ?_ | with_reducible refine is_n ?_ | with_reducible refine isn_n ?_ | with_reducible refine e_v0 ?_ | with_reducible refine g_v0 ?_ | with_reducible refine s_u0 ?_ | with_reducible refine e_v1 ?_ | with_reducible refine g_v1 ?_ | with_reducible refine s_u1 ?_ | with_reducible refine e_v2 ?_ | with_reducible refine g_v2 ?_ | with_reducible refine s_u2 ?_ | with_reducible refine e_v3 ?_ | with_reducible refine g_v3 ?_ | with_reducible refine s_u3 ?_ | with_reducible refine e_v4 ?_ | with_reducible refine g_v4 ?_ | with_reducible refine s_u4 ?_ | with_reducible refine e_v5 ?_ | with_reducible refine g_v5 ?_ | with_reducible refine s_u5 ?_ | with_reducible refine e_v6 ?_ | with_reducible refine g_v6 ?_ | with_reducible refine s_u6 ?_ | with_reducible refine e_v7 ?_ | with_reducible refine g_v7 ?_ | with_reducible refine s_u7 ?_ | with_reducible refine e_v8 ?_ | with_reducible refine g_v8 ?_ | with_reducible refine s_u8 ?_ | with_reducible refine e_v9 ?_ | with_reducible refine g_v9 ?_ | with_reducible refine s_u9 ?_ | with_reducible refine e_v10 ?_ | with_reducible refine g_v10 ?_ | with_reducible refine s_u10 ?_ | with_reducible refine e_v11 ?_ | with_reducible refine g_v11 ?_ | with_reducible refine s_u11 ?_ | with_reducible refine e_v12 ?_ | with_reducible refine g_v12 ?_ | with_reducible refine s_u12 ?_ | with_reducible refine e_v13 ?_ | with_reducible refine g_v13 ?_ | with_reducible refine s_u13 ?_ | with_reducible refine e_v14 ?_ | with_reducible refine g_v14 ?_ | with_reducible refine s_u14 ?_ | with_reducible refine e_v15 ?_ | with_reducible refine g_v15 ?_ | with_reducible refine s_u15 ?_ | with_reducible refine e_v16 ?_ | with_reducible refine g_v16 ?_ | with_reducible refine s_u16 ?_ | with_reducible refine e_v17 ?_ | with_reducible refine g_v17 ?_ | with_reducible refine s_u17 ?_ | with_reducible refine e_v18 ?_ | with_reducible refine g_v18 ?_ | with_reducible refine s_u18 ?_ | with_reducible refine e_v19 ?_ | with_reducible refine g_v19 ?_ | with_reducible refine s_u19 ?_ | ((with_reducible refine e_lc' (ρ' := ?rr) ?hw ?_); (case hw => (dsimp only [wipeW, List.map, List.set]; exact rfl))) | ((with_reducible refine g_tup ?hl ?_); (case hl => exact rfl)) | with_reducible refine b_mod (by first | decide | omega) ?_ | ((with_reducible refine b_pow (pow_ok (by decide) (by decide) (by decide)) ?_); simp only [Int.reduceToNat, Int.reducePow]) | with_reducible refine le_and (by simp only [List.length_cons, List.length_nil]; decide) ?_ | with_reducible refine l_intB ?_ | with_reducible refine l_intI ?_ | with_reducible refine sl_f ?_ | (refine l_len (by exact rfl) (q := ?_); skip) | (refine l_list (by exact rfl) ?_; skip) | (refine ix_t (by exact rfl) ?_; skip))

/-- a key and its price -/
abbrev Kp := List Key × Int
abbrev eK (x : Kp) : List Key × W := (x.1, .int x.2)
abbrev kN (x : Str) : List Key := [.inr "name", .inr x]
abbrev kS (x : Str) : List Key := [.inr "skill", .inr x]
structure PaperOk (town : List Nb) (told : List En) (kis : List Kp) : Prop where
  len : kis.length ≤ 60
  ent : ∀ ki ∈ kis, (∃ x, Nme x ∧ (ki.1 = kN x ∨ ki.1 = kS x)) ∧ -(10 ^ 31) ≤ ki.2 ∧ ki.2 ≤ 10 ^ 31
  nam : ∀ x ∈ town, kN x.1 ∈ kis.map (·.1)
  ski : ∀ x ∈ told, kS x.2.1 ∈ kis.map (·.1)
/-- the price at a key -/
def prc (kis : List Kp) (k : List Key) : Int := ((kis.find? fun ki => decide (ki.1 = k)).map (·.2)).getD 0
theorem get_eK {k : List Key} : ∀ {kis : List Kp}, getK (kis.map eK) k = ((kis.find? fun ki => decide (ki.1 = k)).map (·.2)).map W.int
  | [] => rfl
  | ki :: kis => by
    rw [List.map_cons, get_cons, List.find?_cons]
    by_cases h : ki.1 = k
    · rw [if_pos h, decide_eq_true h]; rfl
    · rw [if_neg h, decide_eq_false h]; exact get_eK
theorem keys_eK {kis : List Kp} : (kis.map eK).map (·.1) = kis.map (·.1) := by rw [List.map_map]; rfl
theorem prc_get {k : List Key} {kis : List Kp} (h : k ∈ kis.map (·.1)) : getK (kis.map eK) k = some (.int (prc kis k)) := by
  rw [← keys_eK] at h
  obtain ⟨v, hv⟩ := get_some.mpr h
  rw [hv]
  rw [get_eK] at hv
  unfold prc
  cases e : (kis.find? fun ki => decide (ki.1 = k)).map (·.2) with
  | none => rw [e] at hv; cases hv
  | some i => rw [e] at hv; cases hv; rfl
theorem PaperOk.bd {town : List Nb} {told : List En} {kis : List Kp} (h : PaperOk town told kis) (k : List Key) : -(10 ^ 31) ≤ prc kis k ∧ prc kis k ≤ 10 ^ 31 := by
  unfold prc
  cases e : kis.find? fun ki => decide (ki.1 = k) with
  | none => exact ⟨by decide, by decide⟩
  | some ki => exact (h.ent ki (List.mem_of_find?_eq_some e)).2
theorem ints_of : ∀ {kvs : List (List Key × W)}, (∀ p ∈ kvs, ∃ z : Int, p.2 = .int z) → ∃ kis : List Kp, kvs = kis.map eK
  | [], _ => ⟨[], rfl⟩
  | (k, w) :: kvs, h => by
    obtain ⟨kis, e⟩ := ints_of (kvs := kvs) fun p hp => h p (List.mem_cons_of_mem _ hp)
    obtain ⟨z, e2⟩ := h (k, w) (List.mem_cons_self ..)
    have e2 : w = .int z := e2
    subst e2
    exact ⟨(k, z) :: kis, by rw [e]; rfl⟩
/-- an int put -/
theorem set_eK {kis : List Kp} {k : List Key} {z : Int} : ∃ kis' : List Kp, setK (kis.map eK) k (.int z) = kis'.map eK ∧ kis'.length ≤ kis.length + 1 ∧ (∀ ki ∈ kis', ki ∈ kis ∨ ki = (k, z)) ∧ (∀ j, j ∈ kis'.map (·.1) ↔ j ∈ kis.map (·.1) ∨ j = k) := by
  have h : ∀ p ∈ setK (kis.map eK) k (.int z), ∃ z : Int, p.2 = .int z := fun p hp => by
    rcases set_ent hp with hp | ⟨_, e⟩
    · obtain ⟨q, _, rfl⟩ := List.mem_map.mp hp
      exact ⟨_, rfl⟩
    · exact ⟨z, e⟩
  obtain ⟨kis', e⟩ := ints_of h
  refine ⟨kis', e, ?_, fun ki hk => ?_, fun j => ?_⟩
  · have h1 := set_len (kvs := kis.map eK) (k := k) (v := .int z)
    rw [e, List.length_map, List.length_map] at h1
    exact h1
  · have h1 : eK ki ∈ setK (kis.map eK) k (.int z) := by rw [e]; exact List.mem_map.mpr ⟨ki, hk, rfl⟩
    rcases set_ent h1 with h2 | ⟨h2, h3⟩
    · obtain ⟨q, hq, e2⟩ := List.mem_map.mp h2
      injection e2 with e3 e4
      injection e4 with e4
      have : q = ki := Prod.ext e3 e4
      rw [← this]; exact .inl hq
    · injection h3 with h3
      exact .inr (Prod.ext h2 h3)
  · have h1 := set_mem (kvs := kis.map eK) (k := k) (v := .int z) (j := j)
    rw [e, keys_eK, keys_eK] at h1
    exact h1
def spPrices : MP.Spec := fun ws S Q _ => ∃ (ns : List Int) (a : Addr) (k : Int) (town : List Nb) (os us : List En), ws = [iL ns, .ref a, .lst (town.map eN), .tup [.lst (os.map eO), .lst (us.map eO)]] ∧ ns.length ≤ 63 ∧ Ctr S a k 1000 ∧ TownOk town ∧ town.length ≤ 12 ∧
  DayOk town (os ++ us) ∧ os.length + us.length ≤ 40 ∧ ∀ p kis k', S p = none → PaperOk town (os ++ us) kis → k ≤ k' → k' ≤ k + 500 → Q (.ref p) (sup (putC S a k') p (.dt (kis.map eK)))
abbrev eP2 (x : Str × Str) : W := .tup [.str x.1, .str x.2]
theorem ok_prices {Φ : Nat → MP.Spec} {i_draw i_skills : Nat} (hd : Φ i_draw = spDraw) (hs : Φ i_skills = spSkills) {ws : List W} {S : Sto} {Q : WK} {X X0 : XC} (h : spPrices ws S Q X) : wps Φ (c_prices i_draw i_skills) (startW N_prices ws) S (dEnds Q X0) := by
  obtain ⟨ns, a, k, town, os, us, rfl, hn, ⟨ha, h0, h9⟩, hT, hl, hD, hl2, q⟩ := h
  unfold c_prices
  show wps Φ _ [some (iL ns), some (.ref a), some (.lst (town.map eN)), some (.tup [.lst (os.map eO), .lst (us.map eO)]), none, none, none, none, none] S (dEnds Q X0)
  repeat' contradiction
  intro p hp
  rw [if_pos rfl]
  have hpa : p ≠ a := ne_new ha hp
  have hal : ∀ {x o}, (sup (putC S a x) p o) a = some (.lst [.int x]) := fun {x o} => by rw [sup_ne hpa.symm]; exact sup_same
  repeat' contradiction
  refine ⟨_, rfl, ?_⟩
  refine lc_mp (fun x : Nb => eP2 ("name", x.1)) rfl (le_line (by omega)) (fun x _ K hK => ?_) ?_
  · repeat' contradiction
    exact hK
  repeat' contradiction
  rw [hs]
  refine ⟨os, us, rfl, by omega, fun sk s1 s2 => ?_⟩
  refine ⟨_, rfl, ?_⟩
  refine lc_mp (fun x : Str => eP2 ("skill", x)) rfl (le_line (by omega)) (fun x _ K hK => ?_) ?_
  · repeat' contradiction
    exact hK
  repeat' contradiction
  refine b_cat rfl rfl (le_line (by rw [List.length_map, List.length_map]; omega)) ?_
  repeat' contradiction
  refine ⟨_, rfl, ?_⟩
  have hks : ∀ x ∈ town.map (fun x => (("name" : Str), x.1)) ++ sk.map (fun x => (("skill" : Str), x)), ∃ y, Nme y ∧ ([Sum.inr x.1, Sum.inr x.2] = kN y ∨ ([Sum.inr x.1, Sum.inr x.2] : List Key) = kS y) := fun x hx => by
    rcases List.mem_append.mp hx with hx | hx
    · obtain ⟨y, hy, rfl⟩ := List.mem_map.mp hx
      exact ⟨_, hT.nm y hy, .inl rfl⟩
    · obtain ⟨y, hy, rfl⟩ := List.mem_map.mp hx
      obtain ⟨z, hz, rfl⟩ := (s1 y).mp hy
      exact ⟨_, hD.sk z hz, .inr rfl⟩
  have hke : town.map (fun x : Nb => eP2 ("name", x.1)) ++ sk.map (fun x : Str => eP2 ("skill", x)) = (town.map (fun x => (("name" : Str), x.1)) ++ sk.map (fun x => (("skill" : Str), x))).map eP2 := by
    rw [List.map_append, List.map_map, List.map_map]; rfl
  have hn1 : ∀ x ∈ town, (("name" : Str), x.1) ∈ town.map (fun x => (("name" : Str), x.1)) ++ sk.map (fun x => (("skill" : Str), x)) := fun x hx => List.mem_append.mpr (.inl (List.mem_map.mpr ⟨x, hx, rfl⟩))
  have hn2 : ∀ x ∈ os ++ us, (("skill" : Str), x.2.1) ∈ town.map (fun x => (("name" : Str), x.1)) ++ sk.map (fun x => (("skill" : Str), x)) := fun x hx => List.mem_append.mpr (.inr (List.mem_map.mpr ⟨x.2.1, (s1 _).mpr ⟨x, hx, rfl⟩, rfl⟩))
  have hkl : (town.map (fun x => (("name" : Str), x.1)) ++ sk.map (fun x => (("skill" : Str), x))).length ≤ 52 := by
    rw [List.length_append, List.length_map, List.length_map]; omega
  rw [hke]
  generalize town.map (fun x => (("name" : Str), x.1)) ++ sk.map (fun x => (("skill" : Str), x)) = ks at hks hn1 hn2 hkl ⊢
  refine for_map (fun i ρ S' => ∃ (kis : List Kp) (k' : Int) (r5 r6 r7 r8 : Option W), ρ = [some (iL ns), some (.ref a), some (.lst (town.map eN)), some (.tup [.lst (os.map eO), .lst (us.map eO)]), some (.ref p), r5, r6, r7, r8] ∧ S' = sup (putC S a k') p (.dt (kis.map eK)) ∧
      kis.length ≤ i ∧ (∀ ki ∈ kis, (∃ x, Nme x ∧ (ki.1 = kN x ∨ ki.1 = kS x)) ∧ -(10 ^ 31) ≤ ki.2 ∧ ki.2 ≤ 10 ^ 31) ∧ (∀ x ∈ ks.take i, ([Sum.inr x.1, Sum.inr x.2] : List Key) ∈ kis.map (·.1)) ∧ k ≤ k' ∧ k' ≤ k + 3 * i)
    ⟨[], k, _, _, _, _, rfl, by rw [show putC S a k = S from sup_id ha]; rfl, Nat.le_refl _, (fun _ h => nomatch h), (fun _ h => nomatch h), by omega, by omega⟩ (fun _ _ _ _ => rfl) (fun i x ρ S' hx h K hK => ?_) (fun ρ S' h => ?_)
  · obtain ⟨kis, k', r5, r6, r7, r8, rfl, rfl, e1, e2, e3, e4, e5⟩ := h
    have hi := (List.getElem?_eq_some_iff.mp hx).1
    repeat' contradiction
    rw [hd]
    refine u_draw hn hal (by omega) (by omega) (by decide) (by decide) (sup_swap hpa) fun g g0 g1 => ?_
    repeat' contradiction
    refine b_mul (mul_ok (by omega) (by omega)) ?_
    repeat' contradiction
    rw [hd]
    refine u_draw hn hal (by omega) (by omega) (by decide) (by decide) (sup_swap hpa) fun d d0 d1 => ?_
    repeat' contradiction
    rw [hd]
    refine u_draw hn hal (by omega) (by omega) (by decide) (by decide) (sup_swap hpa) fun f f0 f1 => ?_
    refine ix_pick (P := fun w => ∃ z : Int, w = .int z ∧ -(10 ^ 31) ≤ z ∧ z ≤ 10 ^ 31) f0 (by simp only [List.length_cons, List.length_nil]; omega) ?_ ?_
    · simp only [List.forall_mem_cons]
      refine ⟨?_, ?_, ?_, ?_, ?_, ?_, fun _ h => nomatch h⟩ <;> exact ⟨_, rfl, by omega, by omega⟩
    rintro _ ⟨z, rfl, z1, z2⟩
    repeat' contradiction
    refine st_dt sup_same (keys_ss _ _) (lt_line (by rw [List.length_map]; omega)) ?_
    obtain ⟨kis', h1, h2, h3, h4⟩ := set_eK (kis := kis) (k := [.inr x.1, .inr x.2]) (z := z)
    rw [h1, sup_sup]
    refine hK _ _ ⟨kis', k' + 1 + 1 + 1, _, _, _, _, rfl, rfl, by omega, fun ki hk => ?_, fun y hy => ?_, by omega, by omega⟩
    · rcases h3 ki hk with hk | rfl
      · exact e2 ki hk
      · exact ⟨hks x (List.mem_of_getElem? hx), z1, z2⟩
    · rw [h4]
      rw [List.take_add_one, hx] at hy
      rcases List.mem_append.mp hy with hy | hy
      · exact .inl (e3 y hy)
      · have : y = x := by simpa using hy
        rw [this]; exact .inr rfl
  · obtain ⟨kis, k', r5, r6, r7, r8, rfl, rfl, e1, e2, e3, e4, e5⟩ := h
    rw [List.take_length] at e3
    repeat' contradiction
    exact d_same (q p kis k' hp ⟨by omega, e2, fun x hx => e3 _ (hn1 x hx), fun x hx => e3 _ (hn2 x hx)⟩ (by omega) (by omega))
end LI

set_option Elab.async false
set_option linter.all false
set_option maxRecDepth 100000
set_option maxHeartbeats 4000000
/-! BD: what prices bound. -/
namespace BD
open PySem PySem.Spec PyProof.Rows L2 MP NM DK LF LG LH LI
local macro_rules
  | `(tactic| contradiction) => `(tactic| first | with_reducible refine d_in ?_ | with_reducible refine s_nil ?_ | with_reducible refine s_seq ?_ | with_reducible refine s_asg ?_ | with_reducible refine s_par ?_ | with_reducible refine s_expr ?_ | with_reducible refine s_ret ?_ | with_reducible refine s_retN ?_ | with_reducible refine s_iff ?_ | with_reducible refine s_fr ?_ | with_reducible refine s_cont ?_ | with_reducible refine s_brk ?_ | with_reducible refine s_pass ?_ | with_reducible refine s_augS ?_ | with_reducible refine e_int ?_ | with_reducible refine e_str ?_ | with_reducible refine e_bool ?_ | with_reducible refine e_none ?_ | with_reducible refine e_bin ?_ | with_reducible refine e_neg ?_ | with_reducible refine e_nt ?_ | with_reducible refine e_cmp ?_ | with_reducible refine e_chain ?_ | with_reducible refine e_an ?_ | with_reducible refine e_or ?_ | with_reducible refine an_1 ?_ | with_reducible refine an_2 ?_ | with_reducible refine or_1 ?_ | with_reducible refine or_2 ?_ | with_reducible refine e_ife ?_ | with_reducible refine e_call ?_ | with_reducible refine e_blt ?_ | with_reducible refine e_mth ?_ | with_reducible refine e_idx ?_ | with_reducible refine e_slc ?_ | with_reducible refine e_rev ?_ | with_reducible refine e_tup ?_ | with_reducible refine e_lst ?_ | with_reducible refine e_dnew ?_ | with_reducible refine e_dct ?_ | with_reducible refine e_isi ?_ | with_reducible refine e_lrg ?_ | with_reducible refine e_lzip ?_ | with_reducible refine e_stp ?_ | with_reducible refine e_sset ?_ | with_reducible refine es_n ?_ | with_reducible refine es_c ?_ | with_reducible refine o_nil ?_ | with_reducible refine o_var ?_ | with_reducible refine o_cst ?_ | with_reducible refine o_bin ?_ | with_reducible refine o_neg ?_ | with_reducible refine o_blt ?_ | with_reducible refine o_call ?_ | with_reducible refine ik ?_ | with_reducible refine ng ?_ | with_reducible refine tq_bl ?_ | with_reducible refine tq_int ?_ | with_reducible refine tq_non ?_ | with_reducible refine tq_lst ?_ | with_reducible refine tq_tup ?_ | with_reducible refine t_var ?_ | with_reducible refine t_call ?_ | with_reducible refine t_blt ?_ | with_reducible refine t_mth ?_ | with_reducible refine t_idx ?_ | with_reducible refine t_isi ?_ | with_reducible refine t_cst ?_ | with_reducible refine t_nt ?_ | with_reducible refine t_cmp ?_ | with_reducible refine t_chain ?_ | with_reducible refine t_an ?_ | with_reducible refine t_or ?_ | with_reducible refine ant_1 ?_ | with_reducible refine ant_2 ?_ | with_reducible refine ort_1 ?_ | with_reducible refine ort_2 ?_ | with_reducible refine tr_bl ?_ | with_reducible refine tr_int ?_ | with_reducible refine tr_lst ?_ | with_reducible refine tr_non ?_ | with_reducible refine c_nil ?_ | with_reducible refine c_one ?_ | with_reducible refine g_sub ?_ | with_reducible refine gs_n ?_ | with_reducible refine gs_c ?_ | with_reducible refine i_seq ?_ | with_reducible refine i_rng1 ?_ | with_reducible refine i_rng2 ?_ | with_reducible refine i_rng3 ?_ | with_reducible refine i_zip ?_ | with_reducible refine i_enm ?_ | with_reducible refine b_add ?_ | with_reducible refine b_sub ?_ | with_reducible refine c_lt ?_ | with_reducible refine c_le ?_ | with_reducible refine c_gt ?_ | with_reducible refine c_ge ?_ | with_reducible refine mk_f ?_ | with_reducible refine ref_and ?_ | with_reducible refine u_set ?_ | with_reducible refine eq_i ?_ | with_reducible refine ne_i ?_ | with_reducible refine eq_b ?_ | with_reducible refine ne_b ?_ | with_reducible refine is_b ?_ | with_reducible refine isn_b ?_ | with_reducible refine is_n ?_ | with_reducible refine isn_n ?_ | with_reducible refine e_v0 ?_ | with_reducible refine g_v0 ?_ | with_reducible refine s_u0 ?_ | with_reducible refine e_v1 ?_ | with_reducible refine g_v1 ?_ | with_reducible refine s_u1 ?_ | with_reducible refine e_v2 ?_ | with_reducible refine g_v2 ?_ | with_reducible refine s_u2 ?_ | with_reducible refine e_v3 ?_ | with_reducible refine g_v3 ?_ | with_reducible refine s_u3 ?_ | with_reducible refine e_v4 ?_ | with_reducible refine g_v4 ?_ | with_reducible refine s_u4 ?_ | with_reducible refine e_v5 ?_ | with_reducible refine g_v5 ?_ | with_reducible refine s_u5 ?_ | with_reducible refine e_v6 ?_ | with_reducible refine g_v6 ?_ | with_reducible refine s_u6 ?_ | with_reducible refine e_v7 ?_ | with_reducible refine g_v7 ?_ | with_reducible refine s_u7 ?_ | with_reducible refine e_v8 ?_ | with_reducible refine g_v8 ?_ | with_reducible refine s_u8 ?_ | with_reducible refine e_v9 ?_ | with_reducible refine g_v9 ?_ | with_reducible refine s_u9 ?_ | with_reducible refine e_v10 ?_ | with_reducible refine g_v10 ?_ | with_reducible refine s_u10 ?_ | with_reducible refine e_v11 ?_ | with_reducible refine g_v11 ?_ | with_reducible refine s_u11 ?_ | with_reducible refine e_v12 ?_ | with_reducible refine g_v12 ?_ | with_reducible refine s_u12 ?_ | with_reducible refine e_v13 ?_ | with_reducible refine g_v13 ?_ | with_reducible refine s_u13 ?_ | with_reducible refine e_v14 ?_ | with_reducible refine g_v14 ?_ | with_reducible refine s_u14 ?_ | with_reducible refine e_v15 ?_ | with_reducible refine g_v15 ?_ | with_reducible refine s_u15 ?_ | with_reducible refine e_v16 ?_ | with_reducible refine g_v16 ?_ | with_reducible refine s_u16 ?_ | with_reducible refine e_v17 ?_ | with_reducible refine g_v17 ?_ | with_reducible refine s_u17 ?_ | with_reducible refine e_v18 ?_ | with_reducible refine g_v18 ?_ | with_reducible refine s_u18 ?_ | with_reducible refine e_v19 ?_ | with_reducible refine g_v19 ?_ | with_reducible refine s_u19 ?_ | ((with_reducible refine e_lc' (ρ' := ?rr) ?hw ?_); (case hw => (dsimp only [wipeW, List.map, List.set]; exact rfl))) | ((with_reducible refine g_tup ?hl ?_); (case hl => exact rfl)) | with_reducible refine b_mod (by first | decide | omega) ?_ | ((with_reducible refine b_pow (pow_ok (by decide) (by decide) (by decide)) ?_); simp only [Int.reduceToNat, Int.reducePow]) | with_reducible refine le_and (by simp only [List.length_cons, List.length_nil]; decide) ?_ | with_reducible refine l_intB ?_ | with_reducible refine l_intI ?_ | with_reducible refine sl_f ?_ | (refine l_len (by exact rfl) (q := ?_); skip) | (refine l_list (by exact rfl) ?_; skip) | (refine ix_t (by exact rfl) ?_; skip))

/-! bound -/
def N_bound : List Str := ["town", "day", "prices", "found", "name", "skill", "hours", "purse", "floor", "ceiling", "price"]
def P_bound : List Str := ["town", "day", "prices"]
def c_bound : CS :=
  (.seq (.asg (.tnm 3) (.cst (.int 0))) (.seq (.fr (.ttup (.cons (.tnm 4) (.cons (.tnm 5) (.cons (.tnm 6) .nil)))) (.iseq (.idx (.var 1) (.cst (.int 0)))) (.seq (.aug 3 false (.bin false .mul (.var 6) (.blt .max2 false (.cons (.cst (.int 0)) (.cons (.bin false .add (.bin false .sub (.cst (.int 1)) (.idx (.var 2) (.tup (.cons (.cst (.str "skill")) (.cons (.var 5) .nil))))) (.idx (.var 2) (.tup (.cons (.cst (.str "name")) (.cons (.var 4) .nil))))) .nil))))) .nil)) (.seq (.fr (.ttup (.cons (.tnm 4) (.cons (.tnm 5) (.cons (.tnm 6) .nil)))) (.iseq (.idx (.var 1) (.cst (.int 1)))) (.seq (.aug 3 false (.bin false .mul (.var 6) (.blt .max2 false (.cons (.cst (.int 0)) (.cons (.bin false .sub (.idx (.var 2) (.tup (.cons (.cst (.str "skill")) (.cons (.var 5) .nil)))) (.idx (.var 2) (.tup (.cons (.cst (.str "name")) (.cons (.var 4) .nil))))) .nil))))) .nil)) (.seq (.fr (.ttup (.cons (.tnm 4) (.cons (.tnm 7) (.cons (.tnm 8) (.cons (.tnm 9) .nil))))) (.iseq (.var 0)) (.seq (.asg (.tnm 10) (.idx (.var 2) (.tup (.cons (.cst (.str "name")) (.cons (.var 4) .nil))))) (.seq (.aug 3 false (.bin false .add (.bin false .mul (.blt .max2 false (.cons (.cst (.int 0)) (.cons (.var 10) .nil))) (.bin false .sub (.var 7) (.var 8))) (.bin false .mul (.blt .max2 false (.cons (.cst (.int 0)) (.cons (.bin false .sub (.cst (.int 0)) (.var 10)) .nil))) (.bin false .sub (.var 9) (.var 7))))) .nil))) (.seq (.ret (.var 3)) .nil)))))

def gO (kis : List Kp) (x : En) : Int := x.2.2 * max 0 (1 - prc kis (kS x.2.1) + prc kis (kN x.1))
def gU (kis : List Kp) (x : En) : Int := x.2.2 * max 0 (prc kis (kS x.2.1) - prc kis (kN x.1))
def gT (kis : List Kp) (x : Nb) : Int := max 0 (prc kis (kN x.1)) * (x.2.1 - x.2.2.1) + max 0 (0 - prc kis (kN x.1)) * (x.2.2.2 - x.2.1)
def boundF (town : List Nb) (os us : List En) (kis : List Kp) : Int := (os.map (gO kis)).sum + (us.map (gU kis)).sum + (town.map (gT kis)).sum
def spBound : MP.Spec := fun ws S Q _ => ∃ (town : List Nb) (os us : List En) (p : Addr) (kis : List Kp), ws = [.lst (town.map eN), .tup [.lst (os.map eO), .lst (us.map eO)], .ref p] ∧ S p = some (.dt (kis.map eK)) ∧ TownOk town ∧ DayOk town (os ++ us) ∧ PaperOk town (os ++ us) kis ∧
  Q (.int (boundF town os us kis)) S
theorem nam_of {town : List Nb} {told : List En} {kis : List Kp} (hP : PaperOk town told kis) (hD : DayOk town told) {x : En} (hx : x ∈ told) : kN x.1 ∈ kis.map (·.1) := by
  obtain ⟨y, hy, e⟩ := List.mem_map.mp (hD.nm x hx)
  rw [← e]
  exact hP.nam y hy
theorem sum_take {α : Type} {f : α → Int} {xs : List α} {i : Nat} {x : α} (h : xs[i]? = some x) : ((xs.take (i + 1)).map f).sum = ((xs.take i).map f).sum + f x := by
  rw [List.take_add_one, h, List.map_append, List.sum_append]
  simp
theorem ok_bound {Φ : Nat → MP.Spec} {ws : List W} {S : Sto} {Q : WK} {X X0 : XC} (h : spBound ws S Q X) : wps Φ (c_bound) (startW N_bound ws) S (dEnds Q X0) := by
  obtain ⟨town, os, us, p, kis, rfl, hp, hT, hD, hP, q⟩ := h
  unfold c_bound
  show wps Φ _ [some (.lst (town.map eN)), some (.tup [.lst (os.map eO), .lst (us.map eO)]), some (.ref p), none, none, none, none, none, none, none, none] S (dEnds Q X0)
  repeat' contradiction
  refine ⟨_, rfl, ?_⟩
  refine for_map (fun i ρ S' => ∃ (f : Int) (r4 r5 r6 : Option W), ρ = [some (.lst (town.map eN)), some (.tup [.lst (os.map eO), .lst (us.map eO)]), some (.ref p), some (.int f), r4, r5, r6, none, none, none, none] ∧ S = S' ∧ f = ((os.take i).map (gO kis)).sum)
    ⟨0, _, _, _, rfl, rfl, rfl⟩ (fun _ _ _ _ => rfl) (fun i x ρ S' hx h K hK => ?_) (fun ρ S' h => ?_)
  · obtain ⟨f, r4, r5, r6, rfl, rfl, ef⟩ := h
    have hxm : x ∈ os ++ us := List.mem_append.mpr (.inl (List.mem_of_getElem? hx))
    have hb := hD.bd x hxm
    have h1 := hP.bd [.inr "skill", .inr x.2.1]
    have h2 := hP.bd [.inr "name", .inr x.1]
    repeat' contradiction
    refine ix_dt hp (keys_ss _ _) (prc_get (hP.ski x hxm)) ?_
    repeat' contradiction
    refine ix_dt hp (keys_ss _ _) (prc_get (nam_of hP hD hxm)) ?_
    repeat' contradiction
    refine l_max2 fun mx hmx => ?_
    refine b_mul (mul_ok (by omega) (by omega)) ?_
    refine ⟨_, _, rfl, rfl, ?_⟩
    refine hK _ _ ⟨_, _, _, _, rfl, rfl, ?_⟩
    rw [sum_take hx, ← ef, hmx]
    rfl
  obtain ⟨f, r4, r5, r6, rfl, rfl, ef⟩ := h
  rw [List.take_length] at ef
  repeat' contradiction
  refine ⟨_, rfl, ?_⟩
  refine for_map (fun i ρ S' => ∃ (g : Int) (r4 r5 r6 : Option W), ρ = [some (.lst (town.map eN)), some (.tup [.lst (os.map eO), .lst (us.map eO)]), some (.ref p), some (.int g), r4, r5, r6, none, none, none, none] ∧ S = S' ∧ g = f + ((us.take i).map (gU kis)).sum)
    ⟨f, _, _, _, rfl, rfl, by simp⟩ (fun _ _ _ _ => rfl) (fun i x ρ S' hx h K hK => ?_) (fun ρ S' h => ?_)
  · obtain ⟨g, r4, r5, r6, rfl, rfl, eg⟩ := h
    have hxm : x ∈ os ++ us := List.mem_append.mpr (.inr (List.mem_of_getElem? hx))
    have hb := hD.bd x hxm
    have h1 := hP.bd [.inr "skill", .inr x.2.1]
    have h2 := hP.bd [.inr "name", .inr x.1]
    repeat' contradiction
    refine ix_dt hp (keys_ss _ _) (prc_get (hP.ski x hxm)) ?_
    repeat' contradiction
    refine ix_dt hp (keys_ss _ _) (prc_get (nam_of hP hD hxm)) ?_
    repeat' contradiction
    refine l_max2 fun mx hmx => ?_
    refine b_mul (mul_ok (by omega) (by omega)) ?_
    refine ⟨_, _, rfl, rfl, ?_⟩
    refine hK _ _ ⟨_, _, _, _, rfl, rfl, ?_⟩
    rw [sum_take hx, ← Int.add_assoc, ← eg, hmx]
    rfl
  obtain ⟨g, r4, r5, r6, rfl, rfl, eg⟩ := h
  rw [List.take_length] at eg
  repeat' contradiction
  refine ⟨_, rfl, ?_⟩
  refine for_map (fun i ρ S' => ∃ (u : Int) (r4 r5 r6 r7 r8 r9 r10 : Option W), ρ = [some (.lst (town.map eN)), some (.tup [.lst (os.map eO), .lst (us.map eO)]), some (.ref p), some (.int u), r4, r5, r6, r7, r8, r9, r10] ∧ S = S' ∧ u = g + ((town.take i).map (gT kis)).sum)
    ⟨g, _, _, _, _, _, _, _, rfl, rfl, by simp⟩ (fun _ _ _ _ => rfl) (fun i x ρ S' hx h K hK => ?_) (fun ρ S' h => ?_)
  · obtain ⟨u, r4, r5, r6, r7, r8, r9, r10, rfl, rfl, eu⟩ := h
    have hxm := List.mem_of_getElem? hx
    have hb := hT.bd x hxm
    have h2 := hP.bd [.inr "name", .inr x.1]
    repeat' contradiction
    refine ix_dt hp (keys_ss _ _) (prc_get (hP.nam x hxm)) ?_
    repeat' contradiction
    refine l_max2 fun mx hmx => ?_
    repeat' contradiction
    refine b_mul (mul_ok (by omega) (by omega)) ?_
    repeat' contradiction
    refine l_max2 fun my hmy => ?_
    repeat' contradiction
    refine b_mul (mul_ok (by omega) (by omega)) ?_
    repeat' contradiction
    refine ⟨_, _, rfl, rfl, ?_⟩
    refine hK _ _ ⟨_, _, _, _, _, _, _, _, rfl, rfl, ?_⟩
    rw [sum_take hx, ← Int.add_assoc, ← eu, hmx, hmy]
    rfl
  · obtain ⟨u, r4, r5, r6, r7, r8, r9, r10, rfl, rfl, eu⟩ := h
    rw [List.take_length] at eu
    repeat' contradiction
    refine d_same ?_
    rw [eu, eg, ef]
    exact q
end BD

set_option Elab.async false
set_option linter.all false
set_option maxRecDepth 100000
set_option maxHeartbeats 4000000
/-! EX: names, jobs, exchanges. -/
namespace EX
open PySem PySem.Spec PyProof.Rows L2 MP NM DK LF LG
local macro_rules
  | `(tactic| contradiction) => `(tactic| first | with_reducible refine d_in ?_ | with_reducible refine s_nil ?_ | with_reducible refine s_seq ?_ | with_reducible refine s_asg ?_ | with_reducible refine s_par ?_ | with_reducible refine s_expr ?_ | with_reducible refine s_ret ?_ | with_reducible refine s_retN ?_ | with_reducible refine s_iff ?_ | with_reducible refine s_fr ?_ | with_reducible refine s_cont ?_ | with_reducible refine s_brk ?_ | with_reducible refine s_pass ?_ | with_reducible refine s_augS ?_ | with_reducible refine e_int ?_ | with_reducible refine e_str ?_ | with_reducible refine e_bool ?_ | with_reducible refine e_none ?_ | with_reducible refine e_bin ?_ | with_reducible refine e_neg ?_ | with_reducible refine e_nt ?_ | with_reducible refine e_cmp ?_ | with_reducible refine e_chain ?_ | with_reducible refine e_an ?_ | with_reducible refine e_or ?_ | with_reducible refine an_1 ?_ | with_reducible refine an_2 ?_ | with_reducible refine or_1 ?_ | with_reducible refine or_2 ?_ | with_reducible refine e_ife ?_ | with_reducible refine e_call ?_ | with_reducible refine e_blt ?_ | with_reducible refine e_mth ?_ | with_reducible refine e_idx ?_ | with_reducible refine e_slc ?_ | with_reducible refine e_rev ?_ | with_reducible refine e_tup ?_ | with_reducible refine e_lst ?_ | with_reducible refine e_dnew ?_ | with_reducible refine e_dct ?_ | with_reducible refine e_isi ?_ | with_reducible refine e_lrg ?_ | with_reducible refine e_lzip ?_ | with_reducible refine e_stp ?_ | with_reducible refine e_sset ?_ | with_reducible refine es_n ?_ | with_reducible refine es_c ?_ | with_reducible refine o_nil ?_ | with_reducible refine o_var ?_ | with_reducible refine o_cst ?_ | with_reducible refine o_bin ?_ | with_reducible refine o_neg ?_ | with_reducible refine o_blt ?_ | with_reducible refine o_call ?_ | with_reducible refine ik ?_ | with_reducible refine ng ?_ | with_reducible refine tq_bl ?_ | with_reducible refine tq_int ?_ | with_reducible refine tq_non ?_ | with_reducible refine tq_lst ?_ | with_reducible refine tq_tup ?_ | with_reducible refine t_var ?_ | with_reducible refine t_call ?_ | with_reducible refine t_blt ?_ | with_reducible refine t_mth ?_ | with_reducible refine t_idx ?_ | with_reducible refine t_isi ?_ | with_reducible refine t_cst ?_ | with_reducible refine t_nt ?_ | with_reducible refine t_cmp ?_ | with_reducible refine t_chain ?_ | with_reducible refine t_an ?_ | with_reducible refine t_or ?_ | with_reducible refine ant_1 ?_ | with_reducible refine ant_2 ?_ | with_reducible refine ort_1 ?_ | with_reducible refine ort_2 ?_ | with_reducible refine tr_bl ?_ | with_reducible refine tr_int ?_ | with_reducible refine tr_lst ?_ | with_reducible refine tr_non ?_ | with_reducible refine c_nil ?_ | with_reducible refine c_one ?_ | with_reducible refine g_sub ?_ | with_reducible refine gs_n ?_ | with_reducible refine gs_c ?_ | with_reducible refine i_seq ?_ | with_reducible refine i_rng1 ?_ | with_reducible refine i_rng2 ?_ | with_reducible refine i_rng3 ?_ | with_reducible refine i_zip ?_ | with_reducible refine i_enm ?_ | with_reducible refine b_add ?_ | with_reducible refine b_sub ?_ | with_reducible refine c_lt ?_ | with_reducible refine c_le ?_ | with_reducible refine c_gt ?_ | with_reducible refine c_ge ?_ | with_reducible refine mk_f ?_ | with_reducible refine ref_and ?_ | with_reducible refine u_set ?_ | with_reducible refine eq_i ?_ | with_reducible refine ne_i ?_ | with_reducible refine eq_b ?_ | with_reducible refine ne_b ?_ | with_reducible refine is_b ?_ | with_reducible refine isn_b ?_ | with_reducible refine is_n ?_ | with_reducible refine isn_n ?_ | with_reducible refine e_v0 ?_ | with_reducible refine g_v0 ?_ | with_reducible refine s_u0 ?_ | with_reducible refine e_v1 ?_ | with_reducible refine g_v1 ?_ | with_reducible refine s_u1 ?_ | with_reducible refine e_v2 ?_ | with_reducible refine g_v2 ?_ | with_reducible refine s_u2 ?_ | with_reducible refine e_v3 ?_ | with_reducible refine g_v3 ?_ | with_reducible refine s_u3 ?_ | with_reducible refine e_v4 ?_ | with_reducible refine g_v4 ?_ | with_reducible refine s_u4 ?_ | with_reducible refine e_v5 ?_ | with_reducible refine g_v5 ?_ | with_reducible refine s_u5 ?_ | with_reducible refine e_v6 ?_ | with_reducible refine g_v6 ?_ | with_reducible refine s_u6 ?_ | with_reducible refine e_v7 ?_ | with_reducible refine g_v7 ?_ | with_reducible refine s_u7 ?_ | with_reducible refine e_v8 ?_ | with_reducible refine g_v8 ?_ | with_reducible refine s_u8 ?_ | with_reducible refine e_v9 ?_ | with_reducible refine g_v9 ?_ | with_reducible refine s_u9 ?_ | with_reducible refine e_v10 ?_ | with_reducible refine g_v10 ?_ | with_reducible refine s_u10 ?_ | with_reducible refine e_v11 ?_ | with_reducible refine g_v11 ?_ | with_reducible refine s_u11 ?_ | with_reducible refine e_v12 ?_ | with_reducible refine g_v12 ?_ | with_reducible refine s_u12 ?_ | with_reducible refine e_v13 ?_ | with_reducible refine g_v13 ?_ | with_reducible refine s_u13 ?_ | with_reducible refine e_v14 ?_ | with_reducible refine g_v14 ?_ | with_reducible refine s_u14 ?_ | with_reducible refine e_v15 ?_ | with_reducible refine g_v15 ?_ | with_reducible refine s_u15 ?_ | with_reducible refine e_v16 ?_ | with_reducible refine g_v16 ?_ | with_reducible refine s_u16 ?_ | with_reducible refine e_v17 ?_ | with_reducible refine g_v17 ?_ | with_reducible refine s_u17 ?_ | with_reducible refine e_v18 ?_ | with_reducible refine g_v18 ?_ | with_reducible refine s_u18 ?_ | with_reducible refine e_v19 ?_ | with_reducible refine g_v19 ?_ | with_reducible refine s_u19 ?_ | ((with_reducible refine e_lc' (ρ' := ?rr) ?hw ?_); (case hw => (dsimp only [wipeW, List.map, List.set]; exact rfl))) | ((with_reducible refine g_tup ?hl ?_); (case hl => exact rfl)) | with_reducible refine b_mod (by first | decide | omega) ?_ | ((with_reducible refine b_pow (pow_ok (by decide) (by decide) (by decide)) ?_); simp only [Int.reduceToNat, Int.reducePow]) | with_reducible refine le_and (by simp only [List.length_cons, List.length_nil]; decide) ?_ | with_reducible refine l_intB ?_ | with_reducible refine l_intI ?_ | with_reducible refine sl_f ?_ | (refine l_len (by exact rfl) (q := ?_); skip) | (refine l_list (by exact rfl) ?_; skip) | (refine ix_t (by exact rfl) ?_; skip))

/-! is_name -/
def N_is_name : List Str := ["thing", "letter"]
def P_is_name : List Str := ["thing"]
def c_is_name : CS :=
  (.seq (.iff (.or (.cons (.nt (.isi (.var 0) .str)) (.cons (.nt (.chain .LtE .LtE (.cst (.int 1)) (.blt .len false (.cons (.var 0) .nil)) (.glb "MOST_NAME" (.int 8)))) .nil))) (.seq (.ret (.cst (.bool false))) .nil) .nil) (.seq (.ret (.blt .all false (.cons (.lc false [("letter", 1)] (.tnm 1) (.iseq (.var 0)) .nil (.cmp .In (.var 1) (.glb "LETTERS" (.str "abcdefghijklmnopqrstuvwxyz")))) .nil))) .nil))
/-! is_row -/
def N_is_row : List Str := ["thing", "many"]
def P_is_row : List Str := ["thing", "many"]
def c_is_row : CS :=
  (.seq (.ret (.an (.cons (.isi (.var 0) .tup) (.cons (.cmp .Eq (.blt .len false (.cons (.var 0) .nil)) (.var 1)) .nil)))) .nil)
/-! is_job -/
def N_is_job : List Str := ["thing", "offers", "wishes", "name"]
def P_is_job : List Str := ["thing", "offers", "wishes"]
def c_is_job (i_is_row i_is_name : Nat) : CS :=
  (.seq (.iff (.or (.cons (.nt (.call i_is_row (.cons (.var 0) (.cons (.cst (.int 4)) .nil)))) (.cons (.nt (.blt .all false (.cons (.lc false [("name", 3)] (.tnm 3) (.iseq (.slc false (.var 0) .nil (.cst (.int 3)))) .nil (.call i_is_name (.cons (.var 3) .nil))) .nil))) .nil))) (.seq (.ret (.cst (.bool false))) .nil) .nil) (.seq (.iff (.or (.cons (.nt (.isi (.idx (.var 0) (.cst (.int 3))) .int)) (.cons (.isi (.idx (.var 0) (.cst (.int 3))) .bl) (.cons (.cmp .Lt (.idx (.var 0) (.cst (.int 3))) (.cst (.int 1))) .nil)))) (.seq (.ret (.cst (.bool false))) .nil) .nil) (.seq (.ret (.an (.cons (.cmp .In (.tup (.cons (.idx (.var 0) (.cst (.int 0))) (.cons (.idx (.var 0) (.cst (.int 2))) .nil))) (.var 1)) (.cons (.cmp .In (.tup (.cons (.idx (.var 0) (.cst (.int 1))) (.cons (.idx (.var 0) (.cst (.int 2))) .nil))) (.var 2)) .nil)))) .nil)))
/-! is_exchange -/
def N_is_exchange : List Str := ["town", "day", "jobs", "offers", "wishes", "purses", "giver", "taker", "skill", "hours", "one", "left", "job"]
def P_is_exchange : List Str := ["town", "day", "jobs"]
def c_is_exchange (i_is_job : Nat) : CS :=
  (.seq (.asg (.tnm 3) (.blt .dictT false (.cons (.lc false [("one", 10)] (.tnm 10) (.iseq (.idx (.var 1) (.cst (.int 0)))) .nil (.tup (.cons (.slc false (.var 10) .nil (.cst (.int 2))) (.cons (.idx (.var 10) (.cst (.int 2))) .nil)))) .nil))) (.seq (.asg (.tnm 4) (.blt .dictT false (.cons (.lc false [("one", 10)] (.tnm 10) (.iseq (.idx (.var 1) (.cst (.int 1)))) .nil (.tup (.cons (.slc false (.var 10) .nil (.cst (.int 2))) (.cons (.idx (.var 10) (.cst (.int 2))) .nil)))) .nil))) (.seq (.iff (.or (.cons (.nt (.isi (.var 2) .lst)) (.cons (.nt (.blt .all false (.cons (.lc false [("job", 12)] (.tnm 12) (.iseq (.var 2)) .nil (.call i_is_job (.cons (.var 12) (.cons (.var 3) (.cons (.var 4) .nil))))) .nil))) .nil))) (.seq (.ret (.cst (.bool false))) .nil) .nil) (.seq (.iff (.cmp .Lt (.lset (.lc false [("job", 12)] (.tnm 12) (.iseq (.var 2)) .nil (.slc false (.var 12) .nil (.cst (.int 3))))) (.blt .len false (.cons (.var 2) .nil))) (.seq (.ret (.cst (.bool false))) .nil) .nil) (.seq (.asg (.tnm 5) (.blt .dictK false (.cons (.lc false [("one", 10)] (.tnm 10) (.iseq (.var 0)) .nil (.tup (.cons (.idx (.var 10) (.cst (.int 0))) (.cons (.idx (.var 10) (.cst (.int 1))) .nil)))) .nil))) (.seq (.fr (.ttup (.cons (.tnm 6) (.cons (.tnm 7) (.cons (.tnm 8) (.cons (.tnm 9) .nil))))) (.iseq (.var 2)) (.seq (.augS (.var 3) (.tup (.cons (.var 6) (.cons (.var 8) .nil))) true (.var 9)) (.seq (.augS (.var 4) (.tup (.cons (.var 7) (.cons (.var 8) .nil))) true (.var 9)) (.seq (.augS (.var 5) (.var 6) false (.var 9)) (.seq (.augS (.var 5) (.var 7) true (.var 9)) .nil))))) (.seq (.iff (.nt (.blt .all false (.cons (.lc false [("left", 11)] (.tnm 11) (.iseq (.bin false .add (.lvals false (.var 3)) (.lvals false (.var 4)))) .nil (.cmp .GtE (.var 11) (.cst (.int 0)))) .nil))) (.seq (.ret (.cst (.bool false))) .nil) .nil) (.seq (.ret (.blt .all false (.cons (.lc false [("one", 10)] (.tnm 10) (.iseq (.var 0)) .nil (.chain .LtE .LtE (.idx (.var 10) (.cst (.int 2))) (.idx (.var 5) (.idx (.var 10) (.cst (.int 0)))) (.idx (.var 10) (.cst (.int 3))))) .nil))) .nil))))))))
/-! moved -/
def N_moved : List Str := ["jobs", "job"]
def P_moved : List Str := ["jobs"]
def c_moved : CS :=
  (.seq (.ret (.blt .sum false (.cons (.lc false [("job", 1)] (.tnm 1) (.iseq (.var 0)) .nil (.idx (.var 1) (.cst (.int 3)))) .nil))) .nil)

section
variable {Φ : Nat → MP.Spec} {ρ : MP.Env} {S : Sto} {Q : WK} {X : XC}
theorem e_glbI {x : Str} {i : Int} (q : Q (.int i) S) : (wp Φ (.glb x (.int i))).e ρ S Q X := ⟨_, rfl, q⟩
theorem e_glbS {x z : Str} (q : Q (.str z) S) : (wp Φ (.glb x (.str z))).e ρ S Q X := ⟨_, rfl, q⟩
theorem sl_t {ws : List W} {live : Bool} {lo hi : Option Int} (q : Q (.tup (cutW ws lo hi)) S) : slcW live (.tup ws) lo hi S Q := q
end
/-! ### names -/
theorem abc_low {c : Nat} : decide (c ∈ ("abcdefghijklmnopqrstuvwxyz" : Str).cps.toList) = low c := by
  rw [abc, Bool.eq_iff_iff, decide_eq_true_iff, List.mem_map]
  unfold NM.low
  rw [Bool.and_eq_true, decide_eq_true_iff, decide_eq_true_iff]
  constructor
  · rintro ⟨i, hi, rfl⟩
    have := List.mem_range.mp hi
    omega
  · intro h
    exact ⟨c - 97, List.mem_range.mpr (by omega), by omega⟩
theorem in_abc {c : Nat} {S : Sto} {Q : Bool → Prop} (q : Q (low c)) : cmpW .In (.str ⟨#[c]⟩) (.str "abcdefghijklmnopqrstuvwxyz") S Q := by
  show Q (!(Builtin.Str.occurrences ("abcdefghijklmnopqrstuvwxyz" : Str) ⟨#[c]⟩ 0 ("abcdefghijklmnopqrstuvwxyz" : Str).length 1).isEmpty)
  rw [StrLaws.found_one, abc_low]
  exact q
/-- whether a value is a name -/
def nameB : W → Bool
  | .str x => decide (1 ≤ x.length ∧ x.length ≤ 8) && x.cps.toList.all low
  | _ => false
theorem nameB_s {x : Str} : nameB (.str x) = (decide (1 ≤ x.length ∧ x.length ≤ 8) && x.cps.toList.all low) := rfl
theorem nameB_nme {x : Str} (h : Nme x) : nameB (.str x) = true := by
  unfold nameB
  rw [Bool.and_eq_true, decide_eq_true_iff]
  exact ⟨⟨h.pos, h.nm.len⟩, List.all_eq_true.mpr h.nm.low⟩
theorem nameB_str {w : W} (h : nameB w = true) : ∃ x, w = .str x ∧ Nme x := by
  cases w with
  | str x =>
    unfold nameB at h
    rw [Bool.and_eq_true, decide_eq_true_iff] at h
    exact ⟨x, rfl, ⟨h.1.2, fun c hc => List.all_eq_true.mp h.2 c hc⟩, h.1.1⟩
  | _ => cases h
def spIsName : MP.Spec := fun ws S Q _ => ∃ w k, ws = [w] ∧ kndW S w = some k ∧ (∀ x, w = .str x → x.length ≤ sizeLine) ∧ Q (.bl (nameB w)) S
theorem knd_str {S : Sto} {w : W} (h : kndW S w = some .str) : ∃ x, w = .str x := by
  cases w with
  | str x => exact ⟨x, rfl⟩
  | ref a =>
    have h : (S a).bind kndO = some .str := h
    cases e : S a with
    | none => rw [e] at h; cases h
    | some o =>
      rw [e] at h
      cases o with
      | lk o od u => cases o <;> cases h
      | _ => cases h
  | _ => cases h
theorem sub_str {k : Knd} : subK k .str = decide (k = .str) := by cases k <;> rfl
theorem ok_is_name {Φ : Nat → MP.Spec} {ws : List W} {S : Sto} {Q : WK} {X X0 : XC} (h : spIsName ws S Q X) : wps Φ (c_is_name) (startW N_is_name ws) S (dEnds Q X0) := by
  obtain ⟨w, k, rfl, hk, hl, q⟩ := h
  unfold c_is_name
  show wps Φ _ [some w, none] S (dEnds Q X0)
  repeat' contradiction
  refine ⟨k, hk, ?_⟩
  repeat' contradiction
  by_cases c : k = .str
  · subst c
    obtain ⟨x, rfl⟩ := knd_str hk
    refine iteF' rfl ?_
    repeat' contradiction
    refine l_lenS (hl x rfl) ?_
    repeat' contradiction
    refine LD.ite_d (fun c1 => ?_) (fun c1 => ?_)
    · refine e_glbI ?_
      repeat' contradiction
      refine ite_nd (fun c2 => ?_) (fun c2 => ?_)
      · repeat' contradiction
        refine d_same ?_
        have : nameB (.str x) = false := by
          rw [nameB_s, decide_eq_false (by omega)]; rfl
        rw [← this]; exact q
      · repeat' contradiction
        refine ⟨_, rfl, ?_⟩
        refine lc_mp (enc := fun c : Nat => W.str ⟨#[c]⟩) (xs := x.cps.toList) (fun c => .bl (low c)) rfl (by rw [← len_cps]; exact hl x rfl) (fun c _ K hK => ?_) ?_
        · repeat' contradiction
          refine e_glbS ?_
          exact in_abc hK
        repeat' contradiction
        refine l_all (ns := x.cps.toList.map low) (by rw [List.map_map]; rfl) ?_
        refine d_same ?_
        have : nameB (.str x) = (x.cps.toList.map low).all id := by
          rw [nameB_s, decide_eq_true (by omega), List.all_map]; rfl
        rw [← this]; exact q
    · refine iteT' rfl ?_
      repeat' contradiction
      refine d_same ?_
      have : nameB (.str x) = false := by
        rw [nameB_s, decide_eq_false (by omega)]; rfl
      rw [← this]; exact q
  · refine iteT' (by rw [sub_str, decide_eq_false c]; rfl) ?_
    refine iteT' rfl ?_
    repeat' contradiction
    refine d_same ?_
    have : nameB w = false := by
      cases w with
      | str x => cases hk; exact absurd rfl c
      | _ => rfl
    rw [← this]; exact q
end EX

set_option Elab.async false
set_option linter.all false
set_option maxRecDepth 100000
set_option maxHeartbeats 4000000
/-! EY: rows, jobs. -/
namespace EY
open PySem PySem.Spec PyProof.Rows L2 MP NM DK LF LG EX
local macro_rules
  | `(tactic| contradiction) => `(tactic| first | with_reducible refine d_in ?_ | with_reducible refine s_nil ?_ | with_reducible refine s_seq ?_ | with_reducible refine s_asg ?_ | with_reducible refine s_par ?_ | with_reducible refine s_expr ?_ | with_reducible refine s_ret ?_ | with_reducible refine s_retN ?_ | with_reducible refine s_iff ?_ | with_reducible refine s_fr ?_ | with_reducible refine s_cont ?_ | with_reducible refine s_brk ?_ | with_reducible refine s_pass ?_ | with_reducible refine s_augS ?_ | with_reducible refine e_int ?_ | with_reducible refine e_str ?_ | with_reducible refine e_bool ?_ | with_reducible refine e_none ?_ | with_reducible refine e_bin ?_ | with_reducible refine e_neg ?_ | with_reducible refine e_nt ?_ | with_reducible refine e_cmp ?_ | with_reducible refine e_chain ?_ | with_reducible refine e_an ?_ | with_reducible refine e_or ?_ | with_reducible refine an_1 ?_ | with_reducible refine an_2 ?_ | with_reducible refine or_1 ?_ | with_reducible refine or_2 ?_ | with_reducible refine e_ife ?_ | with_reducible refine e_call ?_ | with_reducible refine e_blt ?_ | with_reducible refine e_mth ?_ | with_reducible refine e_idx ?_ | with_reducible refine e_slc ?_ | with_reducible refine e_rev ?_ | with_reducible refine e_tup ?_ | with_reducible refine e_lst ?_ | with_reducible refine e_dnew ?_ | with_reducible refine e_dct ?_ | with_reducible refine e_isi ?_ | with_reducible refine e_lrg ?_ | with_reducible refine e_lzip ?_ | with_reducible refine e_stp ?_ | with_reducible refine e_sset ?_ | with_reducible refine es_n ?_ | with_reducible refine es_c ?_ | with_reducible refine o_nil ?_ | with_reducible refine o_var ?_ | with_reducible refine o_cst ?_ | with_reducible refine o_bin ?_ | with_reducible refine o_neg ?_ | with_reducible refine o_blt ?_ | with_reducible refine o_call ?_ | with_reducible refine ik ?_ | with_reducible refine ng ?_ | with_reducible refine tq_bl ?_ | with_reducible refine tq_int ?_ | with_reducible refine tq_non ?_ | with_reducible refine tq_lst ?_ | with_reducible refine tq_tup ?_ | with_reducible refine t_var ?_ | with_reducible refine t_call ?_ | with_reducible refine t_blt ?_ | with_reducible refine t_mth ?_ | with_reducible refine t_idx ?_ | with_reducible refine t_isi ?_ | with_reducible refine t_cst ?_ | with_reducible refine t_nt ?_ | with_reducible refine t_cmp ?_ | with_reducible refine t_chain ?_ | with_reducible refine t_an ?_ | with_reducible refine t_or ?_ | with_reducible refine ant_1 ?_ | with_reducible refine ant_2 ?_ | with_reducible refine ort_1 ?_ | with_reducible refine ort_2 ?_ | with_reducible refine tr_bl ?_ | with_reducible refine tr_int ?_ | with_reducible refine tr_lst ?_ | with_reducible refine tr_non ?_ | with_reducible refine c_nil ?_ | with_reducible refine c_one ?_ | with_reducible refine g_sub ?_ | with_reducible refine gs_n ?_ | with_reducible refine gs_c ?_ | with_reducible refine i_seq ?_ | with_reducible refine i_rng1 ?_ | with_reducible refine i_rng2 ?_ | with_reducible refine i_rng3 ?_ | with_reducible refine i_zip ?_ | with_reducible refine i_enm ?_ | with_reducible refine b_add ?_ | with_reducible refine b_sub ?_ | with_reducible refine c_lt ?_ | with_reducible refine c_le ?_ | with_reducible refine c_gt ?_ | with_reducible refine c_ge ?_ | with_reducible refine mk_f ?_ | with_reducible refine ref_and ?_ | with_reducible refine u_set ?_ | with_reducible refine eq_i ?_ | with_reducible refine ne_i ?_ | with_reducible refine eq_b ?_ | with_reducible refine ne_b ?_ | with_reducible refine is_b ?_ | with_reducible refine isn_b ?_ | with_reducible refine is_n ?_ | with_reducible refine isn_n ?_ | with_reducible refine e_v0 ?_ | with_reducible refine g_v0 ?_ | with_reducible refine s_u0 ?_ | with_reducible refine e_v1 ?_ | with_reducible refine g_v1 ?_ | with_reducible refine s_u1 ?_ | with_reducible refine e_v2 ?_ | with_reducible refine g_v2 ?_ | with_reducible refine s_u2 ?_ | with_reducible refine e_v3 ?_ | with_reducible refine g_v3 ?_ | with_reducible refine s_u3 ?_ | with_reducible refine e_v4 ?_ | with_reducible refine g_v4 ?_ | with_reducible refine s_u4 ?_ | with_reducible refine e_v5 ?_ | with_reducible refine g_v5 ?_ | with_reducible refine s_u5 ?_ | with_reducible refine e_v6 ?_ | with_reducible refine g_v6 ?_ | with_reducible refine s_u6 ?_ | with_reducible refine e_v7 ?_ | with_reducible refine g_v7 ?_ | with_reducible refine s_u7 ?_ | with_reducible refine e_v8 ?_ | with_reducible refine g_v8 ?_ | with_reducible refine s_u8 ?_ | with_reducible refine e_v9 ?_ | with_reducible refine g_v9 ?_ | with_reducible refine s_u9 ?_ | with_reducible refine e_v10 ?_ | with_reducible refine g_v10 ?_ | with_reducible refine s_u10 ?_ | with_reducible refine e_v11 ?_ | with_reducible refine g_v11 ?_ | with_reducible refine s_u11 ?_ | with_reducible refine e_v12 ?_ | with_reducible refine g_v12 ?_ | with_reducible refine s_u12 ?_ | with_reducible refine e_v13 ?_ | with_reducible refine g_v13 ?_ | with_reducible refine s_u13 ?_ | with_reducible refine e_v14 ?_ | with_reducible refine g_v14 ?_ | with_reducible refine s_u14 ?_ | with_reducible refine e_v15 ?_ | with_reducible refine g_v15 ?_ | with_reducible refine s_u15 ?_ | with_reducible refine e_v16 ?_ | with_reducible refine g_v16 ?_ | with_reducible refine s_u16 ?_ | with_reducible refine e_v17 ?_ | with_reducible refine g_v17 ?_ | with_reducible refine s_u17 ?_ | with_reducible refine e_v18 ?_ | with_reducible refine g_v18 ?_ | with_reducible refine s_u18 ?_ | with_reducible refine e_v19 ?_ | with_reducible refine g_v19 ?_ | with_reducible refine s_u19 ?_ | ((with_reducible refine e_lc' (ρ' := ?rr) ?hw ?_); (case hw => (dsimp only [wipeW, List.map, List.set]; exact rfl))) | ((with_reducible refine g_tup ?hl ?_); (case hl => exact rfl)) | with_reducible refine b_mod (by first | decide | omega) ?_ | ((with_reducible refine b_pow (pow_ok (by decide) (by decide) (by decide)) ?_); simp only [Int.reduceToNat, Int.reducePow]) | with_reducible refine le_and (by simp only [List.length_cons, List.length_nil]; decide) ?_ | with_reducible refine l_intB ?_ | with_reducible refine l_intI ?_ | with_reducible refine sl_f ?_ | (refine l_len (by exact rfl) (q := ?_); skip) | (refine l_list (by exact rfl) ?_; skip) | (refine ix_t (by exact rfl) ?_; skip))

/-- whether a value is a tuple of so many -/
def rowB (w : W) (n : Int) : Bool := match w with
  | .tup us => decide ((us.length : Int) = n)
  | _ => false
def spIsRow : MP.Spec := fun ws S Q _ => ∃ w k n, ws = [w, .int n] ∧ kndW S w = some k ∧ Q (.bl (rowB w n)) S
theorem knd_tup {S : Sto} {w : W} (h : kndW S w = some .tup) : ∃ us, w = .tup us := by
  cases w with
  | tup us => exact ⟨us, rfl⟩
  | ref a =>
    have h : (S a).bind kndO = some .tup := h
    cases e : S a with
    | none => rw [e] at h; cases h
    | some o =>
      rw [e] at h
      cases o with
      | lk o od u => cases o <;> cases h
      | _ => cases h
  | _ => cases h
theorem sub_tup {k : Knd} : subK k .tup = decide (k = .tup) := by cases k <;> rfl
theorem ok_is_row {Φ : Nat → MP.Spec} {ws : List W} {S : Sto} {Q : WK} {X X0 : XC} (h : spIsRow ws S Q X) : wps Φ (c_is_row) (startW N_is_row ws) S (dEnds Q X0) := by
  obtain ⟨w, k, n, rfl, hk, q⟩ := h
  unfold c_is_row
  show wps Φ _ [some w, some (.int n)] S (dEnds Q X0)
  repeat' contradiction
  refine ⟨k, hk, ?_⟩
  repeat' contradiction
  by_cases c : k = .tup
  · subst c
    obtain ⟨us, rfl⟩ := knd_tup hk
    refine iteT' rfl ?_
    repeat' contradiction
    refine d_same ?_
    exact q
  · refine iteF' (by rw [sub_tup, decide_eq_false c]) ?_
    refine d_same ?_
    have e1 : subK k .tup = false := by rw [sub_tup, decide_eq_false c]
    have e2 : rowB w n = false := by
      cases w with
      | tup us => cases hk; exact absurd rfl c
      | _ => rfl
    rw [e1, ← e2]; exact q
/-! ### jobs -/
abbrev K2 := Str × Str
abbrev k2 (x : K2) : List Key := [.inr x.1, .inr x.2]
theorem k2_inj {x y : K2} (h : k2 x = k2 y) : x = y := by
  injection h with h1 h2
  injection h2 with h2 _
  injection h1 with h1
  injection h2 with h2
  exact Prod.ext h1 h2
/-- a thing that may stand for a job: flat things within -/
structure JT (w : W) : Prop where
  noref : ∀ a, w ≠ .ref a
  flat : ∀ us, w = .tup us → us.length ≤ 60 ∧ ∀ u ∈ us, flatW u = true ∧ ∀ x, u = .str x → x.length ≤ 1000
theorem knd_nr {S : Sto} {w : W} (h : ∀ a, w ≠ .ref a) : ∃ k, kndW S w = some k := by
  cases w with
  | ref a => exact absurd rfl (h a)
  | _ => exact ⟨_, rfl⟩
theorem flat_nr {w : W} (h : flatW w = true) : ∀ a, w ≠ .ref a := fun a e => by rw [e] at h; cases h
/-- a job by keys that are there -/
def JobP (ko ku : List K2) (w : W) : Prop := ∃ (g t s : Str) (h : Int), w = .tup [.str g, .str t, .str s, .int h] ∧ 1 ≤ h ∧ (g, s) ∈ ko ∧ (t, s) ∈ ku
def spIsJob : MP.Spec := fun ws S Q _ => ∃ (w : W) (po pu : Addr) (kvo kvu : List (List Key × W)) (ko ku : List K2), ws = [w, .ref po, .ref pu] ∧ S po = some (.dt kvo) ∧ S pu = some (.dt kvu) ∧ kvo.map (·.1) = ko.map k2 ∧ kvu.map (·.1) = ku.map k2 ∧ JT w ∧
  (∀ x ∈ ko, Nme x.1 ∧ Nme x.2) ∧ (∀ x ∈ ku, Nme x.1 ∧ Nme x.2) ∧ ∀ b : Bool, (b = true ↔ JobP ko ku w) → Q (.bl b) S
theorem has_k2 {kvs : List (List Key × W)} {ks : List K2} {x : K2} (e : kvs.map (·.1) = ks.map k2) : (getK kvs (k2 x)).isSome = true ↔ x ∈ ks := by
  rw [Option.isSome_iff_exists, get_some, e, List.mem_map]
  exact ⟨fun ⟨y, hy, h⟩ => k2_inj h ▸ hy, fun h => ⟨x, h, rfl⟩⟩
theorem four {us : List W} (h : us.length = 4) : ∃ a b c d, us = [a, b, c, d] := by
  obtain _ | ⟨a, _ | ⟨b, _ | ⟨c, _ | ⟨d, _ | ⟨e, r⟩⟩⟩⟩⟩ := us <;> simp at h
  exact ⟨a, b, c, d, rfl⟩
theorem and3 {a b c : Bool} : [a, b, c].all id = true ↔ a = true ∧ b = true ∧ c = true := by cases a <;> cases b <;> cases c <;> decide
theorem ok_is_job {Φ : Nat → MP.Spec} {i_is_row i_is_name : Nat} (hr : Φ i_is_row = spIsRow) (hn : Φ i_is_name = spIsName) {ws : List W} {S : Sto} {Q : WK} {X X0 : XC} (h : spIsJob ws S Q X) : wps Φ (c_is_job i_is_row i_is_name) (startW N_is_job ws) S (dEnds Q X0) := by
  obtain ⟨w, po, pu, kvo, kvu, ko, ku, rfl, ho, hu, eo, eu, hj, no, nu, q⟩ := h
  unfold c_is_job
  show wps Φ _ [some w, some (.ref po), some (.ref pu), none] S (dEnds Q X0)
  have no' : ¬ JobP ko ku w → Q (.bl false) S := fun z => q false ⟨(fun h => nomatch h), fun h => absurd h z⟩
  repeat' contradiction
  rw [hr]
  obtain ⟨k, hk⟩ := knd_nr (S := S) hj.noref
  refine ⟨w, k, 4, rfl, hk, ?_⟩
  repeat' contradiction
  by_cases c4 : rowB w 4 = true
  rotate_left
  · refine iteT' (by simpa using c4) ?_
    refine iteT' rfl ?_
    repeat' contradiction
    refine d_same (no' fun ⟨g, t, s, h, e, _⟩ => c4 (by rw [e]; rfl))
  · refine iteF' (by rw [c4]; rfl) ?_
    obtain ⟨us, rfl⟩ : ∃ us, w = .tup us := by
      cases w with
      | tup us => exact ⟨us, rfl⟩
      | _ => cases c4
    have hl : us.length = 4 := by
      have : decide ((us.length : Int) = 4) = true := c4
      have := of_decide_eq_true this
      omega
    obtain ⟨a, b, c, d, rfl⟩ := four hl
    have fl := (hj.flat _ rfl).2
    have fa := fl a (by simp); have fb := fl b (by simp); have fc := fl c (by simp); have fd := fl d (by simp)
    repeat' contradiction
    refine sl_t ?_
    show ∃ ws, rdI S (.tup [a, b, c]) = some ws ∧ _
    refine ⟨[a, b, c], rfl, ?_⟩
    have nm : ∀ u, flatW u = true ∧ (∀ x, u = .str x → x.length ≤ 1000) → ∀ (K : WK), K (.bl (nameB u)) S → Φ i_is_name [u] S K XN := fun u hu' K hK => by
      rw [hn]
      obtain ⟨k, hk⟩ := knd_nr (S := S) (flat_nr hu'.1)
      exact ⟨u, k, rfl, hk, fun x e => le_line (Nat.le_trans (hu'.2 x e) (by decide)), hK⟩
    refine lc_c0 rfl ?_
    repeat' contradiction
    refine nm a fa _ ?_
    refine ⟨lt_line (by show (0 : Nat) ≤ 10000; decide), lc_c0 rfl ?_⟩
    repeat' contradiction
    refine nm b fb _ ?_
    refine ⟨lt_line (by show (1 : Nat) ≤ 10000; decide), lc_c0 rfl ?_⟩
    repeat' contradiction
    refine nm c fc _ ?_
    refine ⟨lt_line (by show (2 : Nat) ≤ 10000; decide), lc_n rfl ?_⟩
    repeat' contradiction
    refine l_all (ns := [nameB a, nameB b, nameB c]) rfl ?_
    repeat' contradiction
    by_cases cn : [nameB a, nameB b, nameB c].all id = true
    rotate_left
    · refine iteT' (by rw [Bool.eq_false_iff.mpr cn]; rfl) ?_
      repeat' contradiction
      refine d_same (no' fun ⟨g, t, s, h, e, _, m1, m2⟩ => cn ?_)
      injection e with e
      injection e with e1 e
      injection e with e2 e
      injection e with e3 e
      rw [e1, e2, e3, and3]
      exact ⟨nameB_nme (no _ m1).1, nameB_nme (nu _ m2).1, nameB_nme (no _ m1).2⟩
    · refine iteF' (by rw [cn]; rfl) ?_
      obtain ⟨na, nb, nc⟩ := and3.mp cn
      obtain ⟨g, rfl, hg⟩ := nameB_str na
      obtain ⟨t, rfl, ht⟩ := nameB_str nb
      obtain ⟨s, rfl, hs⟩ := nameB_str nc
      repeat' contradiction
      obtain ⟨kd, hkd⟩ := knd_nr (S := S) (flat_nr fd.1)
      refine ⟨kd, hkd, ?_⟩
      repeat' contradiction
      have notint : (∀ h, d ≠ .int h) → Q (.bl false) S := fun z => no' fun ⟨g, t, s, h, e, _⟩ => by
        injection e with e
        injection e with _ e
        injection e with _ e
        injection e with _ e
        injection e with e _
        exact z h e
      cases d with
      | ref a => cases fd.1
      | tup a => cases fd.1
      | lst a => cases fd.1
      | non =>
        cases hkd
        refine iteT' rfl (iteT' rfl ?_)
        repeat' contradiction
        exact d_same (notint fun h e => nomatch e)
      | str x =>
        cases hkd
        refine iteT' rfl (iteT' rfl ?_)
        repeat' contradiction
        exact d_same (notint fun h e => nomatch e)
      | bl x =>
        cases hkd
        refine iteF' rfl ?_
        repeat' contradiction
        refine ⟨_, rfl, ?_⟩
        repeat' contradiction
        refine iteT' rfl (iteT' rfl ?_)
        repeat' contradiction
        exact d_same (notint fun h e => nomatch e)
      | int h =>
        cases hkd
        refine iteF' rfl ?_
        repeat' contradiction
        refine ⟨_, rfl, ?_⟩
        repeat' contradiction
        refine iteF' rfl ?_
        repeat' contradiction
        refine LD.ite_d (fun c1 => ?_) (fun c1 => ?_)
        · repeat' contradiction
          refine d_same (no' fun ⟨g', t', s', h', e, h1, _⟩ => ?_)
          injection e with e
          injection e with _ e
          injection e with _ e
          injection e with _ e
          injection e with e _
          injection e with e
          omega
        · repeat' contradiction
          refine in_dt ho (k := k2 (g, s)) rfl ?_
          repeat' contradiction
          have fin : ∀ b : Bool, (b = true ↔ (g, s) ∈ ko ∧ (t, s) ∈ ku) → Q (.bl b) S := fun b hb => q b (hb.trans ⟨fun ⟨m1, m2⟩ => ⟨g, t, s, h, rfl, by omega, m1, m2⟩, fun ⟨g', t', s', h', e, _, m1, m2⟩ => by
            injection e with e
            injection e with e1 e
            injection e with e2 e
            injection e with e3 e
            injection e1 with e1; injection e2 with e2; injection e3 with e3
            rw [e1, e2, e3]; exact ⟨m1, m2⟩⟩)
          by_cases m1 : (g, s) ∈ ko
          · refine iteT' ((has_k2 eo).mpr m1) ?_
            repeat' contradiction
            refine in_dt hu (k := k2 (t, s)) rfl ?_
            exact d_same (fin _ ⟨fun z => ⟨m1, (has_k2 eu).mp z⟩, fun z => (has_k2 eu).mpr z.2⟩)
          · have e : (getK kvo (k2 (g, s))).isSome = false := by
              cases z : (getK kvo (k2 (g, s))).isSome with
              | false => rfl
              | true => exact absurd ((has_k2 eo).mp z) m1
            refine iteF' e ?_
            refine d_same ?_
            show Q (.bl (getK kvo (k2 (g, s))).isSome) S
            rw [e]
            exact fin false ⟨(fun z => nomatch z), fun z => absurd z.1 m1⟩
/-! ### how many hours jobs move -/
abbrev J4 := Str × Str × Str × Int
abbrev eJ4 (j : J4) : W := .tup [.str j.1, .str j.2.1, .str j.2.2.1, .int j.2.2.2]
def spMoved : MP.Spec := fun ws S Q _ => ∃ js : List J4, ws = [.lst (js.map eJ4)] ∧ js.length ≤ 1000 ∧ Q (.int (js.map fun j => j.2.2.2).sum) S
theorem ok_moved {Φ : Nat → MP.Spec} {ws : List W} {S : Sto} {Q : WK} {X X0 : XC} (h : spMoved ws S Q X) : wps Φ (c_moved) (startW N_moved ws) S (dEnds Q X0) := by
  obtain ⟨js, rfl, hl, q⟩ := h
  unfold c_moved
  show wps Φ _ [some (.lst (js.map eJ4)), none] S (dEnds Q X0)
  repeat' contradiction
  refine ⟨_, rfl, ?_⟩
  refine lc_mp (fun j : J4 => W.int j.2.2.2) rfl (le_line (by omega)) (fun x _ K hK => ?_) ?_
  · repeat' contradiction
    exact hK
  repeat' contradiction
  refine l_sum (ns := js.map fun j => j.2.2.2) (by rw [List.map_map]; rfl) ?_
  exact d_same q
end EY

set_option Elab.async false
set_option linter.all false
set_option maxRecDepth 100000
set_option maxHeartbeats 4000000
/-! EZ: whether jobs are an exchange. -/
namespace EZ
open PySem PySem.Spec PyProof.Rows L2 MP NM DK LF LG EX EY
local macro_rules
  | `(tactic| contradiction) => `(tactic| first | with_reducible refine d_in ?_ | with_reducible refine s_nil ?_ | with_reducible refine s_seq ?_ | with_reducible refine s_asg ?_ | with_reducible refine s_par ?_ | with_reducible refine s_expr ?_ | with_reducible refine s_ret ?_ | with_reducible refine s_retN ?_ | with_reducible refine s_iff ?_ | with_reducible refine s_fr ?_ | with_reducible refine s_cont ?_ | with_reducible refine s_brk ?_ | with_reducible refine s_pass ?_ | with_reducible refine s_augS ?_ | with_reducible refine e_int ?_ | with_reducible refine e_str ?_ | with_reducible refine e_bool ?_ | with_reducible refine e_none ?_ | with_reducible refine e_bin ?_ | with_reducible refine e_neg ?_ | with_reducible refine e_nt ?_ | with_reducible refine e_cmp ?_ | with_reducible refine e_chain ?_ | with_reducible refine e_an ?_ | with_reducible refine e_or ?_ | with_reducible refine an_1 ?_ | with_reducible refine an_2 ?_ | with_reducible refine or_1 ?_ | with_reducible refine or_2 ?_ | with_reducible refine e_ife ?_ | with_reducible refine e_call ?_ | with_reducible refine e_blt ?_ | with_reducible refine e_mth ?_ | with_reducible refine e_idx ?_ | with_reducible refine e_slc ?_ | with_reducible refine e_rev ?_ | with_reducible refine e_tup ?_ | with_reducible refine e_lst ?_ | with_reducible refine e_dnew ?_ | with_reducible refine e_dct ?_ | with_reducible refine e_isi ?_ | with_reducible refine e_lrg ?_ | with_reducible refine e_lzip ?_ | with_reducible refine e_stp ?_ | with_reducible refine e_sset ?_ | with_reducible refine es_n ?_ | with_reducible refine es_c ?_ | with_reducible refine o_nil ?_ | with_reducible refine o_var ?_ | with_reducible refine o_cst ?_ | with_reducible refine o_bin ?_ | with_reducible refine o_neg ?_ | with_reducible refine o_blt ?_ | with_reducible refine o_call ?_ | with_reducible refine ik ?_ | with_reducible refine ng ?_ | with_reducible refine tq_bl ?_ | with_reducible refine tq_int ?_ | with_reducible refine tq_non ?_ | with_reducible refine tq_lst ?_ | with_reducible refine tq_tup ?_ | with_reducible refine t_var ?_ | with_reducible refine t_call ?_ | with_reducible refine t_blt ?_ | with_reducible refine t_mth ?_ | with_reducible refine t_idx ?_ | with_reducible refine t_isi ?_ | with_reducible refine t_cst ?_ | with_reducible refine t_nt ?_ | with_reducible refine t_cmp ?_ | with_reducible refine t_chain ?_ | with_reducible refine t_an ?_ | with_reducible refine t_or ?_ | with_reducible refine ant_1 ?_ | with_reducible refine ant_2 ?_ | with_reducible refine ort_1 ?_ | with_reducible refine ort_2 ?_ | with_reducible refine tr_bl ?_ | with_reducible refine tr_int ?_ | with_reducible refine tr_lst ?_ | with_reducible refine tr_non ?_ | with_reducible refine c_nil ?_ | with_reducible refine c_one ?_ | with_reducible refine g_sub ?_ | with_reducible refine gs_n ?_ | with_reducible refine gs_c ?_ | with_reducible refine i_seq ?_ | with_reducible refine i_rng1 ?_ | with_reducible refine i_rng2 ?_ | with_reducible refine i_rng3 ?_ | with_reducible refine i_zip ?_ | with_reducible refine i_enm ?_ | with_reducible refine b_add ?_ | with_reducible refine b_sub ?_ | with_reducible refine c_lt ?_ | with_reducible refine c_le ?_ | with_reducible refine c_gt ?_ | with_reducible refine c_ge ?_ | with_reducible refine mk_f ?_ | with_reducible refine ref_and ?_ | with_reducible refine u_set ?_ | with_reducible refine eq_i ?_ | with_reducible refine ne_i ?_ | with_reducible refine eq_b ?_ | with_reducible refine ne_b ?_ | with_reducible refine is_b ?_ | with_reducible refine isn_b ?_ | with_reducible refine is_n ?_ | with_reducible refine isn_n ?_ | with_reducible refine e_v0 ?_ | with_reducible refine g_v0 ?_ | with_reducible refine s_u0 ?_ | with_reducible refine e_v1 ?_ | with_reducible refine g_v1 ?_ | with_reducible refine s_u1 ?_ | with_reducible refine e_v2 ?_ | with_reducible refine g_v2 ?_ | with_reducible refine s_u2 ?_ | with_reducible refine e_v3 ?_ | with_reducible refine g_v3 ?_ | with_reducible refine s_u3 ?_ | with_reducible refine e_v4 ?_ | with_reducible refine g_v4 ?_ | with_reducible refine s_u4 ?_ | with_reducible refine e_v5 ?_ | with_reducible refine g_v5 ?_ | with_reducible refine s_u5 ?_ | with_reducible refine e_v6 ?_ | with_reducible refine g_v6 ?_ | with_reducible refine s_u6 ?_ | with_reducible refine e_v7 ?_ | with_reducible refine g_v7 ?_ | with_reducible refine s_u7 ?_ | with_reducible refine e_v8 ?_ | with_reducible refine g_v8 ?_ | with_reducible refine s_u8 ?_ | with_reducible refine e_v9 ?_ | with_reducible refine g_v9 ?_ | with_reducible refine s_u9 ?_ | with_reducible refine e_v10 ?_ | with_reducible refine g_v10 ?_ | with_reducible refine s_u10 ?_ | with_reducible refine e_v11 ?_ | with_reducible refine g_v11 ?_ | with_reducible refine s_u11 ?_ | with_reducible refine e_v12 ?_ | with_reducible refine g_v12 ?_ | with_reducible refine s_u12 ?_ | with_reducible refine e_v13 ?_ | with_reducible refine g_v13 ?_ | with_reducible refine s_u13 ?_ | with_reducible refine e_v14 ?_ | with_reducible refine g_v14 ?_ | with_reducible refine s_u14 ?_ | with_reducible refine e_v15 ?_ | with_reducible refine g_v15 ?_ | with_reducible refine s_u15 ?_ | with_reducible refine e_v16 ?_ | with_reducible refine g_v16 ?_ | with_reducible refine s_u16 ?_ | with_reducible refine e_v17 ?_ | with_reducible refine g_v17 ?_ | with_reducible refine s_u17 ?_ | with_reducible refine e_v18 ?_ | with_reducible refine g_v18 ?_ | with_reducible refine s_u18 ?_ | with_reducible refine e_v19 ?_ | with_reducible refine g_v19 ?_ | with_reducible refine s_u19 ?_ | ((with_reducible refine e_lc' (ρ' := ?rr) ?hw ?_); (case hw => (dsimp only [wipeW, List.map, List.set]; exact rfl))) | ((with_reducible refine g_tup ?hl ?_); (case hl => exact rfl)) | with_reducible refine b_mod (by first | decide | omega) ?_ | ((with_reducible refine b_pow (pow_ok (by decide) (by decide) (by decide)) ?_); simp only [Int.reduceToNat, Int.reducePow]) | with_reducible refine le_and (by simp only [List.length_cons, List.length_nil]; decide) ?_ | with_reducible refine l_intB ?_ | with_reducible refine l_intI ?_ | with_reducible refine sl_f ?_ | (refine l_len (by exact rfl) (q := ?_); skip) | (refine l_list (by exact rfl) ?_; skip) | (refine ix_t (by exact rfl) ?_; skip))

abbrev key (x : En) : K2 := (x.1, x.2.1)
/-- a side's dict, the hours by F -/
abbrev kF (os : List En) (F : K2 → Int) : List (List Key × W) := os.map fun x => (k2 (key x), W.int (F (key x)))
/-- the hours as they were -/
def hrs (os : List En) (k : K2) : Int := ((os.find? fun x => decide (key x = k)).map fun x => x.2.2).getD 0
theorem hrs_of {os : List En} (nd : (os.map key).Nodup) {x : En} (hx : x ∈ os) : hrs os (key x) = x.2.2 := by
  induction os with
  | nil => cases hx
  | cons y os ih =>
    rw [List.map_cons, List.nodup_cons] at nd
    unfold hrs
    rw [List.find?_cons]
    by_cases e : key y = key x
    · rw [decide_eq_true e]
      rcases List.mem_cons.mp hx with rfl | hx
      · rfl
      · exact absurd (List.mem_map.mpr ⟨x, hx, e.symm⟩) nd.1
    · rw [decide_eq_false e]
      rcases List.mem_cons.mp hx with rfl | hx
      · exact absurd rfl e
      · exact ih nd.2 hx
theorem kF_keys {os : List En} {F : K2 → Int} : (kF os F).map (·.1) = (os.map key).map k2 := by rw [List.map_map, List.map_map]; rfl
theorem kF_mem {os : List En} {F : K2 → Int} {k : K2} : k2 k ∈ (kF os F).map (·.1) ↔ k ∈ os.map key := by
  rw [kF_keys, List.mem_map]
  exact ⟨fun ⟨y, hy, h⟩ => k2_inj h ▸ hy, fun h => ⟨k, h, rfl⟩⟩
theorem kF_get {os : List En} {F : K2 → Int} {k : K2} (h : k ∈ os.map key) : getK (kF os F) (k2 k) = some (.int (F k)) := by
  induction os with
  | nil => cases h
  | cons y os ih =>
    rw [show kF (y :: os) F = (k2 (key y), W.int (F (key y))) :: kF os F from rfl, get_cons]
    by_cases e : key y = k
    · rw [if_pos (by show k2 (key y) = k2 k; rw [e])]
      show some (W.int (F (key y))) = _
      rw [e]
    · rw [if_neg fun z => e (k2_inj z)]
      exact ih ((List.mem_cons.mp h).elim (fun z => absurd z.symm e) id)
theorem kF_set {os : List En} {F : K2 → Int} {k : K2} {v : Int} (h : k ∈ os.map key) : setK (kF os F) (k2 k) (.int v) = kF os (fun j => if j = k then v else F j) := by
  unfold setK
  rw [if_pos (any_iff.mpr (kF_mem.mpr h)), List.map_map]
  refine List.map_congr_left fun x _ => ?_
  show (if k2 (key x) = k2 k then (k2 (key x), W.int v) else (k2 (key x), W.int (F (key x)))) = (k2 (key x), W.int (if key x = k then v else F (key x)))
  by_cases e : key x = k
  · rw [if_pos (by rw [e]), if_pos e]
  · rw [if_neg (fun z => e (k2_inj z)), if_neg e]
theorem nd_k2 {os : List En} (nd : (os.map key).Nodup) : ((os.map fun x : En => (k2 (key x), W.int x.2.2)).map (·.1)).Nodup := by
  have e : (os.map fun x : En => (k2 (key x), W.int x.2.2)).map (·.1) = (os.map key).map k2 := by rw [List.map_map, List.map_map]; rfl
  rw [e]
  exact nodup_map nd fun x _ y _ e => k2_inj e
theorem kF_new {os : List En} (nd : (os.map key).Nodup) : putsW [] (os.map fun x => (k2 (key x), W.int x.2.2)) = kF os (hrs os) := by
  rw [puts_new (acc := []) (by rw [List.nil_append]; exact nd_k2 nd), List.nil_append]
  exact List.map_congr_left fun x hx => by rw [hrs_of nd hx]
theorem prT_side (os : List En) : prT (os.map fun x => W.tup [.tup [.str x.1, .str x.2.1], .int x.2.2]) = some (os.map fun x => (k2 (key x), W.int x.2.2)) := by
  induction os with
  | nil => rfl
  | cons x os ih =>
    show ((keysW [.str x.1, .str x.2.1]).bind fun k => (prT (os.map fun x => W.tup [.tup [.str x.1, .str x.2.1], .int x.2.2])).map ((k, W.int x.2.2) :: ·)) = _
    rw [ih]; rfl
/-- purses by name -/
abbrev kP (town : List Nb) (P : Str → Int) : List (Key × W) := town.map fun x => (Sum.inr x.1, W.int (P x.1))
def prs (town : List Nb) (k : Str) : Int := ((town.find? fun x => decide (x.1 = k)).map fun x => x.2.1).getD 0
theorem prs_of {town : List Nb} (nd : (town.map (·.1)).Nodup) {x : Nb} (hx : x ∈ town) : prs town x.1 = x.2.1 := by
  induction town with
  | nil => cases hx
  | cons y os ih =>
    rw [List.map_cons, List.nodup_cons] at nd
    unfold prs
    rw [List.find?_cons]
    by_cases e : y.1 = x.1
    · rw [decide_eq_true e]
      rcases List.mem_cons.mp hx with rfl | hx
      · rfl
      · exact absurd (List.mem_map.mpr ⟨x, hx, e.symm⟩) nd.1
    · rw [decide_eq_false e]
      rcases List.mem_cons.mp hx with rfl | hx
      · exact absurd rfl e
      · exact ih nd.2 hx
theorem inr_inj {x y : Str} (h : (Sum.inr x : Key) = .inr y) : x = y := by injection h
theorem kP_mem {town : List Nb} {P : Str → Int} {k : Str} : (Sum.inr k : Key) ∈ (kP town P).map (·.1) ↔ k ∈ town.map (·.1) := by
  rw [List.map_map, List.mem_map, List.mem_map]
  exact ⟨fun ⟨y, hy, h⟩ => ⟨y, hy, inr_inj h⟩, fun ⟨y, hy, h⟩ => ⟨y, hy, by rw [← h]; rfl⟩⟩
theorem kP_get {town : List Nb} {P : Str → Int} {k : Str} (h : k ∈ town.map (·.1)) : getK (kP town P) (.inr k) = some (.int (P k)) := by
  induction town with
  | nil => cases h
  | cons y os ih =>
    rw [show kP (y :: os) P = ((Sum.inr y.1 : Key), W.int (P y.1)) :: kP os P from rfl, get_cons]
    by_cases e : y.1 = k
    · rw [if_pos (by show (Sum.inr y.1 : Key) = .inr k; rw [e])]
      show some (W.int (P y.1)) = _
      rw [e]
    · rw [if_neg fun z => e (inr_inj z)]
      exact ih ((List.mem_cons.mp h).elim (fun z => absurd z.symm e) id)
theorem kP_set {town : List Nb} {P : Str → Int} {k : Str} {v : Int} (h : k ∈ town.map (·.1)) : setK (kP town P) (.inr k) (.int v) = kP town (fun j => if j = k then v else P j) := by
  unfold setK
  rw [if_pos (any_iff.mpr (kP_mem.mpr h)), List.map_map]
  refine List.map_congr_left fun x _ => ?_
  show (if (Sum.inr x.1 : Key) = .inr k then ((Sum.inr x.1 : Key), W.int v) else (.inr x.1, W.int (P x.1))) = (.inr x.1, W.int (if x.1 = k then v else P x.1))
  by_cases e : x.1 = k
  · rw [if_pos (by rw [e]), if_pos e]
  · rw [if_neg (fun z => e (inr_inj z)), if_neg e]
theorem kP_new {town : List Nb} (nd : (town.map (·.1)).Nodup) : putsW [] (town.map fun x => ((Sum.inr x.1 : Key), W.int x.2.1)) = kP town (prs town) := by
  have e : (town.map fun x => ((Sum.inr x.1 : Key), W.int x.2.1)).map (·.1) = (town.map (·.1)).map Sum.inr := by rw [List.map_map, List.map_map]; rfl
  rw [puts_new (acc := []) (by
    rw [List.nil_append, e]
    exact nodup_map nd fun x _ y _ e => inr_inj e), List.nil_append]
  exact List.map_congr_left fun x hx => by rw [prs_of nd hx]
/-! ### what is an exchange -/
/-- hours off a key of one side, by jobs -/
def spent (f : J4 → K2) (js : List J4) (k : K2) : Int := (js.map fun j => if f j = k then j.2.2.2 else 0).sum
abbrev gv (j : J4) : K2 := (j.1, j.2.2.1)
abbrev tk (j : J4) : K2 := (j.2.1, j.2.2.1)
/-- what comes to a purse -/
def come (js : List J4) (n : Str) : Int := (js.map fun j => (if j.1 = n then j.2.2.2 else 0) - (if j.2.1 = n then j.2.2.2 else 0)).sum
structure Ex (town : List Nb) (os us : List En) (js : List J4) : Prop where
  job : ∀ j ∈ js, 1 ≤ j.2.2.2 ∧ gv j ∈ os.map key ∧ tk j ∈ us.map key
  nd : (js.map fun j => ([.inr j.1, .inr j.2.1, .inr j.2.2.1] : List Key)).Nodup
  off : ∀ x ∈ os, spent gv js (key x) ≤ x.2.2
  wsh : ∀ x ∈ us, spent tk js (key x) ≤ x.2.2
  pur : ∀ x ∈ town, x.2.2.1 ≤ x.2.1 + come js x.1 ∧ x.2.1 + come js x.1 ≤ x.2.2.2
def ExW (town : List Nb) (os us : List En) (J : W) : Prop := ∃ js : List J4, J = .lst (js.map eJ4) ∧ Ex town os us js
structure JJ (m : Nat) (J : W) : Prop where
  noref : ∀ a, J ≠ .ref a
  lst : ∀ ws, J = .lst ws → ws.length < m ∧ ∀ w ∈ ws, JT w
def spEx : MP.Spec := fun ws S Q _ => ∃ (town : List Nb) (os us : List En) (J : W), ws = [.lst (town.map eN), .tup [.lst (os.map eO), .lst (us.map eO)], J] ∧ TownOk town ∧ DayOk town (os ++ us) ∧ town.length ≤ 12 ∧ os.length + us.length ≤ 40 ∧ JJ 256 J ∧
  ∀ b : Bool, (b = true ↔ ExW town os us J) → Q (.bl b) S
theorem nd_app {os us : List En} (h : ((os ++ us).map key).Nodup) : (os.map key).Nodup ∧ (us.map key).Nodup := by
  rw [List.map_append, List.nodup_append] at h
  exact ⟨h.1, h.2.1⟩
theorem jobs_of : ∀ {ws : List W} {ko ku : List K2}, (∀ w ∈ ws, JobP ko ku w) → ∃ js : List J4, ws = js.map eJ4 ∧ ∀ j ∈ js, 1 ≤ j.2.2.2 ∧ gv j ∈ ko ∧ tk j ∈ ku
  | [], _, _, _ => ⟨[], rfl, fun _ h => nomatch h⟩
  | w :: ws, ko, ku, h => by
    obtain ⟨js, rfl, h2⟩ := jobs_of (ws := ws) fun u hu => h u (List.mem_cons_of_mem _ hu)
    obtain ⟨g, t, s, n, rfl, h3, h4, h5⟩ := h w List.mem_cons_self
    exact ⟨(g, t, s, n) :: js, rfl, fun j hj => (List.mem_cons.mp hj).elim (fun e => by rw [e]; exact ⟨h3, h4, h5⟩) (h2 j)⟩
theorem eJ4_inj {j k : J4} (h : eJ4 j = eJ4 k) : j = k := by
  injection h with h
  injection h with h1 h
  injection h with h2 h
  injection h with h3 h
  injection h with h4 _
  injection h1 with h1; injection h2 with h2; injection h3 with h3; injection h4 with h4
  exact Prod.ext h1 (Prod.ext h2 (Prod.ext h3 h4))
theorem maps_inj : ∀ {js ks : List J4}, js.map eJ4 = ks.map eJ4 → js = ks
  | [], [], _ => rfl
  | [], _ :: _, h => by cases h
  | _ :: _, [], h => by cases h
  | j :: js, k :: ks, h => by
    rw [List.map_cons, List.map_cons] at h
    injection h with h1 h2
    rw [eJ4_inj h1, maps_inj h2]
theorem tupsW_3 (js : List J4) : tupsW (js.map fun j => W.tup [.str j.1, .str j.2.1, .str j.2.2.1]) = some (js.map fun j => [.inr j.1, .inr j.2.1, .inr j.2.2.1]) := by
  induction js with
  | nil => rfl
  | cons j js ih =>
    show ((keysW [.str j.1, .str j.2.1, .str j.2.2.1]).bind fun k => (tupsW (js.map fun j => W.tup [.str j.1, .str j.2.1, .str j.2.2.1])).map (k :: ·)) = _
    rw [ih]; rfl
theorem prK_town (town : List Nb) : prK (town.map fun x => W.tup [.str x.1, .int x.2.1]) = some (town.map fun x => ((Sum.inr x.1 : Key), W.int x.2.1)) := by
  induction town with
  | nil => rfl
  | cons x os ih =>
    show ((keyW (.str x.1)).bind fun k => (prK (os.map fun x => W.tup [.str x.1, .int x.2.1])).map ((k, W.int x.2.1) :: ·)) = _
    rw [ih]; rfl
section
variable {Φ : Nat → MP.Spec} {ρ : MP.Env} {S : Sto} {Q : WK} {X : XC} {a : CE}
/-- what len(set(..)) asks -/
def setK' (Q : WK) : WK := fun x S1 => ∃ ws ks, rdL S1 x = some ws ∧ tupsW ws = some ks ∧ ws.length < 256 ∧ ∀ L : List (List Key), L.Nodup → (∀ k, k ∈ L ↔ k ∈ ks) → Q (.int L.length) S1
theorem e_lset (h : (wp Φ a).e ρ S (setK' Q) X) : (wp Φ (.lset a)).e ρ S Q X := h
theorem l_set {x : W} {ws : List W} {ks : List (List Key)} (h1 : rdL S x = some ws) (h2 : tupsW ws = some ks) (h3 : ws.length < 256) (q : ∀ n : Nat, n ≤ ks.length → (n = ks.length ↔ ks.Nodup) → Q (.int n) S) : setK' Q x S :=
  ⟨ws, ks, h1, h2, h3, fun L nd hL => let z := MS.len_lt nd hL; q L.length z.1 z.2⟩
theorem e_lvals {live : Bool} (h : (wp Φ a).e ρ S (fun x S1 => ∃ p kvs, x = .ref p ∧ (S1 p).bind obT = some kvs ∧ mkL live (kvs.map (·.2)) S1 Q) X) : (wp Φ (.lvals live a)).e ρ S Q X := h
end
end EZ

set_option Elab.async false
set_option linter.all false
set_option maxRecDepth 100000
set_option maxHeartbeats 4000000
/-! EZ2: is_exchange. -/
namespace EZ
open PySem PySem.Spec PyProof.Rows L2 MP NM DK LF LG EX EY
local macro_rules
  | `(tactic| contradiction) => `(tactic| first | with_reducible refine d_in ?_ | with_reducible refine s_nil ?_ | with_reducible refine s_seq ?_ | with_reducible refine s_asg ?_ | with_reducible refine s_par ?_ | with_reducible refine s_expr ?_ | with_reducible refine s_ret ?_ | with_reducible refine s_retN ?_ | with_reducible refine s_iff ?_ | with_reducible refine s_fr ?_ | with_reducible refine s_cont ?_ | with_reducible refine s_brk ?_ | with_reducible refine s_pass ?_ | with_reducible refine s_augS ?_ | with_reducible refine e_int ?_ | with_reducible refine e_str ?_ | with_reducible refine e_bool ?_ | with_reducible refine e_none ?_ | with_reducible refine e_bin ?_ | with_reducible refine e_neg ?_ | with_reducible refine e_nt ?_ | with_reducible refine e_cmp ?_ | with_reducible refine e_chain ?_ | with_reducible refine e_an ?_ | with_reducible refine e_or ?_ | with_reducible refine an_1 ?_ | with_reducible refine an_2 ?_ | with_reducible refine or_1 ?_ | with_reducible refine or_2 ?_ | with_reducible refine e_ife ?_ | with_reducible refine e_call ?_ | with_reducible refine e_blt ?_ | with_reducible refine e_mth ?_ | with_reducible refine e_idx ?_ | with_reducible refine e_slc ?_ | with_reducible refine e_rev ?_ | with_reducible refine e_tup ?_ | with_reducible refine e_lst ?_ | with_reducible refine e_dnew ?_ | with_reducible refine e_dct ?_ | with_reducible refine e_isi ?_ | with_reducible refine e_lrg ?_ | with_reducible refine e_lzip ?_ | with_reducible refine e_stp ?_ | with_reducible refine e_sset ?_ | with_reducible refine es_n ?_ | with_reducible refine es_c ?_ | with_reducible refine o_nil ?_ | with_reducible refine o_var ?_ | with_reducible refine o_cst ?_ | with_reducible refine o_bin ?_ | with_reducible refine o_neg ?_ | with_reducible refine o_blt ?_ | with_reducible refine o_call ?_ | with_reducible refine ik ?_ | with_reducible refine ng ?_ | with_reducible refine tq_bl ?_ | with_reducible refine tq_int ?_ | with_reducible refine tq_non ?_ | with_reducible refine tq_lst ?_ | with_reducible refine tq_tup ?_ | with_reducible refine t_var ?_ | with_reducible refine t_call ?_ | with_reducible refine t_blt ?_ | with_reducible refine t_mth ?_ | with_reducible refine t_idx ?_ | with_reducible refine t_isi ?_ | with_reducible refine t_cst ?_ | with_reducible refine t_nt ?_ | with_reducible refine t_cmp ?_ | with_reducible refine t_chain ?_ | with_reducible refine t_an ?_ | with_reducible refine t_or ?_ | with_reducible refine ant_1 ?_ | with_reducible refine ant_2 ?_ | with_reducible refine ort_1 ?_ | with_reducible refine ort_2 ?_ | with_reducible refine tr_bl ?_ | with_reducible refine tr_int ?_ | with_reducible refine tr_lst ?_ | with_reducible refine tr_non ?_ | with_reducible refine c_nil ?_ | with_reducible refine c_one ?_ | with_reducible refine g_sub ?_ | with_reducible refine gs_n ?_ | with_reducible refine gs_c ?_ | with_reducible refine i_seq ?_ | with_reducible refine i_rng1 ?_ | with_reducible refine i_rng2 ?_ | with_reducible refine i_rng3 ?_ | with_reducible refine i_zip ?_ | with_reducible refine i_enm ?_ | with_reducible refine b_add ?_ | with_reducible refine b_sub ?_ | with_reducible refine c_lt ?_ | with_reducible refine c_le ?_ | with_reducible refine c_gt ?_ | with_reducible refine c_ge ?_ | with_reducible refine mk_f ?_ | with_reducible refine ref_and ?_ | with_reducible refine u_set ?_ | with_reducible refine eq_i ?_ | with_reducible refine ne_i ?_ | with_reducible refine eq_b ?_ | with_reducible refine ne_b ?_ | with_reducible refine is_b ?_ | with_reducible refine isn_b ?_ | with_reducible refine is_n ?_ | with_reducible refine isn_n ?_ | with_reducible refine e_v0 ?_ | with_reducible refine g_v0 ?_ | with_reducible refine s_u0 ?_ | with_reducible refine e_v1 ?_ | with_reducible refine g_v1 ?_ | with_reducible refine s_u1 ?_ | with_reducible refine e_v2 ?_ | with_reducible refine g_v2 ?_ | with_reducible refine s_u2 ?_ | with_reducible refine e_v3 ?_ | with_reducible refine g_v3 ?_ | with_reducible refine s_u3 ?_ | with_reducible refine e_v4 ?_ | with_reducible refine g_v4 ?_ | with_reducible refine s_u4 ?_ | with_reducible refine e_v5 ?_ | with_reducible refine g_v5 ?_ | with_reducible refine s_u5 ?_ | with_reducible refine e_v6 ?_ | with_reducible refine g_v6 ?_ | with_reducible refine s_u6 ?_ | with_reducible refine e_v7 ?_ | with_reducible refine g_v7 ?_ | with_reducible refine s_u7 ?_ | with_reducible refine e_v8 ?_ | with_reducible refine g_v8 ?_ | with_reducible refine s_u8 ?_ | with_reducible refine e_v9 ?_ | with_reducible refine g_v9 ?_ | with_reducible refine s_u9 ?_ | with_reducible refine e_v10 ?_ | with_reducible refine g_v10 ?_ | with_reducible refine s_u10 ?_ | with_reducible refine e_v11 ?_ | with_reducible refine g_v11 ?_ | with_reducible refine s_u11 ?_ | with_reducible refine e_v12 ?_ | with_reducible refine g_v12 ?_ | with_reducible refine s_u12 ?_ | with_reducible refine e_v13 ?_ | with_reducible refine g_v13 ?_ | with_reducible refine s_u13 ?_ | with_reducible refine e_v14 ?_ | with_reducible refine g_v14 ?_ | with_reducible refine s_u14 ?_ | with_reducible refine e_v15 ?_ | with_reducible refine g_v15 ?_ | with_reducible refine s_u15 ?_ | with_reducible refine e_v16 ?_ | with_reducible refine g_v16 ?_ | with_reducible refine s_u16 ?_ | with_reducible refine e_v17 ?_ | with_reducible refine g_v17 ?_ | with_reducible refine s_u17 ?_ | with_reducible refine e_v18 ?_ | with_reducible refine g_v18 ?_ | with_reducible refine s_u18 ?_ | with_reducible refine e_v19 ?_ | with_reducible refine g_v19 ?_ | with_reducible refine s_u19 ?_ | ((with_reducible refine e_lc' (ρ' := ?rr) ?hw ?_); (case hw => (dsimp only [wipeW, List.map, List.set]; exact rfl))) | ((with_reducible refine g_tup ?hl ?_); (case hl => exact rfl)) | with_reducible refine b_mod (by first | decide | omega) ?_ | ((with_reducible refine b_pow (pow_ok (by decide) (by decide) (by decide)) ?_); simp only [Int.reduceToNat, Int.reducePow]) | with_reducible refine le_and (by simp only [List.length_cons, List.length_nil]; decide) ?_ | with_reducible refine l_intB ?_ | with_reducible refine l_intI ?_ | with_reducible refine sl_f ?_ | (refine l_len (by exact rfl) (q := ?_); skip) | (refine l_list (by exact rfl) ?_; skip) | (refine ix_t (by exact rfl) ?_; skip))

theorem spent_take {f : J4 → K2} {js : List J4} {i : Nat} {j : J4} {k : K2} (h : js[i]? = some j) : spent f (js.take (i + 1)) k = spent f (js.take i) k + if f j = k then j.2.2.2 else 0 := by
  unfold spent
  rw [List.take_add_one, h, List.map_append, List.sum_append]
  simp
theorem come_take {js : List J4} {i : Nat} {j : J4} {n : Str} (h : js[i]? = some j) : come (js.take (i + 1)) n = come (js.take i) n + ((if j.1 = n then j.2.2.2 else 0) - (if j.2.1 = n then j.2.2.2 else 0)) := by
  unfold come
  rw [List.take_add_one, h, List.map_append, List.sum_append]
  simp
theorem all_map {α : Type} {xs : List α} {f : α → Bool} : (xs.map f).all id = true ↔ ∀ x ∈ xs, f x = true := by
  rw [List.all_map, List.all_eq_true]; rfl
theorem ok_is_exchange {Φ : Nat → MP.Spec} {i_is_job : Nat} (hj : Φ i_is_job = spIsJob) {ws : List W} {S : Sto} {Q : WK} {X X0 : XC} (h : spEx ws S Q X) : wps Φ (c_is_exchange i_is_job) (startW N_is_exchange ws) S (dEnds Q X0) := by
  obtain ⟨town, os, us, J, rfl, hT, hD, hl, hl2, hJ, q⟩ := h
  unfold c_is_exchange
  show wps Φ _ [some (.lst (town.map eN)), some (.tup [.lst (os.map eO), .lst (us.map eO)]), some J, none, none, none, none, none, none, none, none, none, none] S (dEnds Q X0)
  obtain ⟨ndo, ndu⟩ := nd_app hD.nd
  have nmk : ∀ x ∈ os ++ us, Nme (key x).1 ∧ Nme (key x).2 := fun x hx => by
    obtain ⟨y, hy, e⟩ := List.mem_map.mp (hD.nm x hx)
    exact ⟨by show Nme x.1; rw [← e]; exact hT.nm y hy, hD.sk x hx⟩
  have nmo : ∀ k ∈ os.map key, Nme k.1 ∧ Nme k.2 := fun k hk => by
    obtain ⟨x, hx, rfl⟩ := List.mem_map.mp hk
    exact nmk x (List.mem_append.mpr (.inl hx))
  have nmu : ∀ k ∈ us.map key, Nme k.1 ∧ Nme k.2 := fun k hk => by
    obtain ⟨x, hx, rfl⟩ := List.mem_map.mp hk
    exact nmk x (List.mem_append.mpr (.inr hx))
  have no' : ∀ {S'}, Fewer S S' → ¬ ExW town os us J → dRt Q (.bl false) S' := fun f z => d_ret f (q false ⟨(fun h => nomatch h), fun h => absurd h z⟩)
  repeat' contradiction
  refine ⟨_, rfl, ?_⟩
  refine lc_mp (fun x : En => W.tup [.tup [.str x.1, .str x.2.1], .int x.2.2]) rfl (le_line (by omega)) (fun x _ K hK => ?_) ?_
  · repeat' contradiction
    refine sl_t ?_
    show (wp Φ _).es _ _ _ _
    repeat' contradiction
    exact hK
  repeat' contradiction
  refine l_dictT rfl (prT_side os) fun p1 h1 => ?_
  rw [kF_new ndo]
  repeat' contradiction
  refine ⟨_, rfl, ?_⟩
  refine lc_mp (fun x : En => W.tup [.tup [.str x.1, .str x.2.1], .int x.2.2]) rfl (le_line (by omega)) (fun x _ K hK => ?_) ?_
  · repeat' contradiction
    refine sl_t ?_
    show (wp Φ _).es _ _ _ _
    repeat' contradiction
    exact hK
  repeat' contradiction
  refine l_dictT rfl (prT_side us) fun p2 h2 => ?_
  rw [kF_new ndu]
  have n21 : p2 ≠ p1 := ne_new sup_same h2
  have h2' : S p2 = none := (sup_ne n21).symm.trans h2
  have a1 : (sup (sup S p1 (.dt (kF os (hrs os)))) p2 (.dt (kF us (hrs us)))) p1 = some (.dt (kF os (hrs os))) := (sup_ne n21.symm).trans sup_same
  have a2 : (sup (sup S p1 (.dt (kF os (hrs os)))) p2 (.dt (kF us (hrs us)))) p2 = some (.dt (kF us (hrs us))) := sup_same
  have hF : Fewer S (sup (sup S p1 (.dt (kF os (hrs os)))) p2 (.dt (kF us (hrs us)))) := fewer_more (fewer_more fewer_rfl h1) h2'
  generalize sup (sup S p1 (.dt (kF os (hrs os)))) p2 (.dt (kF us (hrs us))) = S2 at a1 a2 hF ⊢
  repeat' contradiction
  obtain ⟨kj, hkj⟩ := knd_nr (S := S2) hJ.noref
  refine ⟨kj, hkj, ?_⟩
  repeat' contradiction
  have notl : (∀ ws, J ≠ .lst ws) → subK kj .lst = false := fun z => by
    cases J with
    | lst ws => exact absurd rfl (z ws)
    | ref a => exact absurd rfl (hJ.noref a)
    | _ => cases hkj; rfl
  rcases Classical.em (∃ ws, J = .lst ws) with ⟨jw, rfl⟩ | c0
  rotate_left
  · refine iteT' (by rw [notl fun ws e => c0 ⟨ws, e⟩]; rfl) (iteT' rfl ?_)
    repeat' contradiction
    exact no' hF fun ⟨js, e, _⟩ => c0 ⟨_, e⟩
  · cases hkj
    refine iteF' rfl ?_
    obtain ⟨jl, jt⟩ := hJ.lst jw rfl
    have hdec : ∀ w, Decidable (JobP (os.map key) (us.map key) w) := fun w => Classical.propDecidable _
    repeat' contradiction
    refine ⟨_, rfl, ?_⟩
    rw [show jw = jw.map id from (List.map_id _).symm]
    refine lc_mp (enc := id) (fun w : W => W.bl (decide (JobP (os.map key) (us.map key) w))) (by rw [List.map_id]; rfl) (le_line (by omega)) (fun w hw K hK => ?_) ?_
    · repeat' contradiction
      rw [hj]
      refine ⟨w, p1, p2, _, _, os.map key, us.map key, rfl, a1, a2, kF_keys, kF_keys, jt w hw, nmo, nmu, fun b hb => ?_⟩
      rw [b_of hb]; exact hK
    rw [List.map_id]
    repeat' contradiction
    refine l_all (ns := jw.map fun w => decide (JobP (os.map key) (us.map key) w)) (by rw [List.map_map]; rfl) ?_
    repeat' contradiction
    by_cases c1 : (jw.map fun w => decide (JobP (os.map key) (us.map key) w)).all id = true
    rotate_left
    · refine iteT' (by rw [Bool.eq_false_iff.mpr c1]; rfl) ?_
      repeat' contradiction
      refine no' hF fun ⟨js, e, E⟩ => c1 (all_map.mpr fun w hw => ?_)
      injection e with e
      rw [e] at hw
      obtain ⟨j, hj', rfl⟩ := List.mem_map.mp hw
      obtain ⟨b1, b2, b3⟩ := E.job j hj'
      exact decide_eq_true ⟨_, _, _, _, rfl, b1, b2, b3⟩
    · refine iteF' (by rw [c1]; rfl) ?_
      obtain ⟨js, rfl, hjob⟩ := jobs_of fun w hw => of_decide_eq_true (all_map.mp c1 w hw)
      rw [List.length_map] at jl
      clear c1 jt
      repeat' contradiction
      refine e_lset ?_
      repeat' contradiction
      refine ⟨_, rfl, ?_⟩
      refine lc_mp (fun j : J4 => W.tup [.str j.1, .str j.2.1, .str j.2.2.1]) rfl (le_line (by omega)) (fun x _ K hK => ?_) ?_
      · repeat' contradiction
        refine sl_t ?_
        exact hK
      repeat' contradiction
      refine l_set rfl (tupsW_3 js) (by rw [List.length_map]; exact jl) fun n n1 n2 => ?_
      repeat' contradiction
      rw [List.length_map] at n1 n2
      rw [List.length_map]
      refine LD.ite_d (fun c2 => ?_) (fun c2 => ?_)
      · repeat' contradiction
        refine no' hF fun ⟨ks, e, E⟩ => ?_
        injection e with e
        rw [maps_inj e] at n2 c2
        have := n2.mpr E.nd
        omega
      · have nd := n2.mp (by omega)
        repeat' contradiction
        refine ⟨_, rfl, ?_⟩
        refine lc_mp (fun x : Nb => W.tup [.str x.1, .int x.2.1]) rfl (le_line (by omega)) (fun x _ K hK => ?_) ?_
        · repeat' contradiction
          exact hK
        repeat' contradiction
        refine l_dictK rfl (prK_town town) fun p3 h3 => ?_
        rw [kP_new hT.nd]
        have n31 : p3 ≠ p1 := ne_new a1 h3
        have n32 : p3 ≠ p2 := ne_new a2 h3
        have h3' : S p3 = none := by
          cases z : S p3 with
          | none => rfl
          | some o => rw [hF p3 o z] at h3; cases h3
        repeat' contradiction
        refine ⟨_, rfl, ?_⟩
        refine for_map (fun i ρ S' => ∃ (F G : K2 → Int) (P : Str → Int) (r6 r7 r8 r9 : Option W), ρ = [some (.lst (town.map eN)), some (.tup [.lst (os.map eO), .lst (us.map eO)]), some (.lst (js.map eJ4)), some (.ref p1), some (.ref p2), some (.ref p3), r6, r7, r8, r9, none, none, none] ∧
            S' p1 = some (.dt (kF os F)) ∧ S' p2 = some (.dt (kF us G)) ∧ S' p3 = some (.dk (kP town P)) ∧ Fewer S S' ∧ (∀ k, F k = hrs os k - spent gv (js.take i) k) ∧ (∀ k, G k = hrs us k - spent tk (js.take i) k) ∧ (∀ n, P n = prs town n + come (js.take i) n))
          ⟨hrs os, hrs us, prs town, _, _, _, _, rfl, (sup_ne n31.symm).trans a1, (sup_ne n32.symm).trans a2, sup_same, fewer_more hF h3', fun k => by simp [spent], fun k => by simp [spent], fun k => by simp [come]⟩ (fun _ _ _ _ => rfl) (fun i j ρ S' hx h K hK => ?_) (fun ρ S' h => ?_)
        · obtain ⟨F, G, P, r6, r7, r8, r9, rfl, b1, b2, b3, f, e1, e2, e3⟩ := h
          obtain ⟨m1, m2, m3⟩ := hjob j (List.mem_of_getElem? hx)
          have mg : j.1 ∈ town.map (·.1) := by
            obtain ⟨x, hx', e⟩ := List.mem_map.mp m2
            have := hD.nm x (List.mem_append.mpr (.inl hx'))
            have e : x.1 = j.1 := congrArg (fun k : K2 => k.1) e
            rw [← e]; exact this
          have mt : j.2.1 ∈ town.map (·.1) := by
            obtain ⟨x, hx', e⟩ := List.mem_map.mp m3
            have := hD.nm x (List.mem_append.mpr (.inr hx'))
            have e : x.1 = j.2.1 := congrArg (fun k : K2 => k.1) e
            rw [← e]; exact this
          repeat' contradiction
          refine ix_dt b1 (k := k2 (gv j)) rfl (kF_get m2) ?_
          repeat' contradiction
          refine st_dt b1 (k := k2 (gv j)) rfl (lt_line (by rw [List.length_map]; omega)) ?_
          rw [kF_set m2]
          repeat' contradiction
          have b2' : sup S' p1 (.dt (kF os fun k => if k = gv j then augI true (F (gv j)) j.2.2.2 else F k)) p2 = some (.dt (kF us G)) := (sup_ne n21).trans b2
          refine ix_dt b2' (k := k2 (tk j)) rfl (kF_get m3) ?_
          repeat' contradiction
          refine st_dt b2' (k := k2 (tk j)) rfl (lt_line (by rw [List.length_map]; omega)) ?_
          rw [kF_set m3]
          repeat' contradiction
          have b3' : sup (sup S' p1 (.dt (kF os fun k => if k = gv j then augI true (F (gv j)) j.2.2.2 else F k))) p2 (.dt (kF us fun k => if k = tk j then augI true (G (tk j)) j.2.2.2 else G k)) p3 = some (.dk (kP town P)) := (sup_ne n32).trans ((sup_ne n31).trans b3)
          refine ix_d b3' rfl (kP_get mg) ?_
          repeat' contradiction
          refine st_d b3' rfl (lt_line (by rw [List.length_map]; omega)) ?_
          rw [kP_set mg]
          repeat' contradiction
          refine ix_d sup_same rfl (kP_get mt) ?_
          repeat' contradiction
          refine st_d sup_same rfl (lt_line (by rw [List.length_map]; omega)) ?_
          rw [kP_set mt, sup_sup]
          refine hK _ _ ⟨_, _, _, _, _, _, _, rfl, (sup_ne n31.symm).trans ((sup_ne n21.symm).trans sup_same), (sup_ne n32.symm).trans sup_same, sup_same, fewer_more (fewer_more (fewer_more f h1) h2') h3', fun k => ?_, fun k => ?_, fun n => ?_⟩
          · rw [spent_take hx]
            show (if k = gv j then F (gv j) - j.2.2.2 else F k) = _
            by_cases c : gv j = k
            · subst c; rw [if_pos rfl, if_pos rfl, e1]; omega
            · rw [if_neg (fun z => c z.symm), if_neg c, e1]; omega
          · rw [spent_take hx]
            show (if k = tk j then G (tk j) - j.2.2.2 else G k) = _
            by_cases c : tk j = k
            · subst c; rw [if_pos rfl, if_pos rfl, e2]; omega
            · rw [if_neg (fun z => c z.symm), if_neg c, e2]; omega
          · rw [come_take hx]
            show (if n = j.2.1 then (if j.2.1 = j.1 then P j.1 + j.2.2.2 else P j.2.1) - j.2.2.2 else (if n = j.1 then P j.1 + j.2.2.2 else P n)) = _
            have d1 := e3 n
            by_cases c : n = j.2.1
            · subst c
              rw [if_pos rfl, if_pos rfl]
              by_cases c2 : j.2.1 = j.1
              · rw [if_pos c2, if_pos c2.symm, ← c2, d1]; omega
              · rw [if_neg c2, if_neg (fun z => c2 z.symm), d1]; omega
            · rw [if_neg c, if_neg (show ¬ j.2.1 = n from fun z => c z.symm)]
              by_cases c2 : n = j.1
              · rw [if_pos c2, if_pos c2.symm, ← c2, d1]; omega
              · rw [if_neg c2, if_neg (show ¬ j.1 = n from fun z => c2 z.symm), d1]; omega
        · obtain ⟨F, G, P, r6, r7, r8, r9, rfl, b1, b2, b3, f, e1, e2, e3⟩ := h
          rw [List.take_length] at e1 e2 e3
          repeat' contradiction
          refine e_lvals ?_
          repeat' contradiction
          refine ⟨p1, _, rfl, by rw [b1]; rfl, ?_⟩
          repeat' contradiction
          refine e_lvals ?_
          repeat' contradiction
          refine ⟨p2, _, rfl, by rw [b2]; rfl, ?_⟩
          repeat' contradiction
          refine b_cat rfl rfl (le_line (by rw [List.length_map, List.length_map, List.length_map, List.length_map]; omega)) ?_
          repeat' contradiction
          refine ⟨_, rfl, ?_⟩
          have ev : (kF os F).map (·.2) ++ (kF us G).map (·.2) = (os.map (fun x => F (key x)) ++ us.map (fun x => G (key x))).map W.int := by
            rw [List.map_append, List.map_map, List.map_map, List.map_map, List.map_map]; rfl
          rw [ev]
          refine lc_mp (fun v : Int => W.bl (decide (0 ≤ v))) rfl (le_line (by rw [List.length_append, List.length_map, List.length_map]; omega)) (fun x _ K hK => ?_) ?_
          · repeat' contradiction
            exact hK
          repeat' contradiction
          refine l_all (ns := (os.map (fun x => F (key x)) ++ us.map (fun x => G (key x))).map fun v => decide (0 ≤ v)) (by rw [List.map_map]; rfl) ?_
          repeat' contradiction
          by_cases c3 : ((os.map (fun x => F (key x)) ++ us.map (fun x => G (key x))).map fun v => decide (0 ≤ v)).all id = true
          rotate_left
          · refine iteT' (by rw [Bool.eq_false_iff.mpr c3]; rfl) ?_
            repeat' contradiction
            refine no' f fun ⟨ks, e, E⟩ => c3 (all_map.mpr fun v hv => ?_)
            injection e with e
            obtain rfl := maps_inj e
            rcases List.mem_append.mp hv with hv | hv
            · obtain ⟨x, hx, rfl⟩ := List.mem_map.mp hv
              have := E.off x hx
              rw [e1, hrs_of ndo hx]
              exact decide_eq_true (by omega)
            · obtain ⟨x, hx, rfl⟩ := List.mem_map.mp hv
              have := E.wsh x hx
              rw [e2, hrs_of ndu hx]
              exact decide_eq_true (by omega)
          · refine iteF' (by rw [c3]; rfl) ?_
            have c3 := all_map.mp c3
            repeat' contradiction
            refine ⟨_, rfl, ?_⟩
            refine lc_mp (fun x : Nb => W.bl (decide (x.2.2.1 ≤ P x.1) && decide (P x.1 ≤ x.2.2.2))) rfl (le_line (by omega)) (fun x hx K hK => ?_) ?_
            · repeat' contradiction
              refine ix_d b3 rfl (kP_get (List.mem_map.mpr ⟨x, hx, rfl⟩)) ?_
              repeat' contradiction
              by_cases c4 : x.2.2.1 ≤ P x.1
              · refine iteT' (decide_eq_true c4) ?_
                repeat' contradiction
                rw [decide_eq_true c4] at hK
                exact hK
              · refine iteF' (decide_eq_false c4) ?_
                rw [decide_eq_false c4] at hK
                exact hK
            repeat' contradiction
            refine l_all (ns := town.map fun x => decide (x.2.2.1 ≤ P x.1) && decide (P x.1 ≤ x.2.2.2)) (by rw [List.map_map]; rfl) ?_
            refine d_ret f (q _ ?_)
            rw [all_map]
            constructor
            · intro h
              refine ⟨js, rfl, hjob, nd, fun x hx => ?_, fun x hx => ?_, fun x hx => ?_⟩
              · have := of_decide_eq_true (c3 _ (List.mem_append.mpr (.inl (List.mem_map.mpr ⟨x, hx, rfl⟩))))
                rw [e1, hrs_of ndo hx] at this
                omega
              · have := of_decide_eq_true (c3 _ (List.mem_append.mpr (.inr (List.mem_map.mpr ⟨x, hx, rfl⟩))))
                rw [e2, hrs_of ndu hx] at this
                omega
              · have := h x hx
                rw [Bool.and_eq_true, decide_eq_true_iff, decide_eq_true_iff, e3, prs_of hT.nd hx] at this
                exact this
            · rintro ⟨ks, e, E⟩ x hx
              injection e with e
              obtain rfl := maps_inj e
              have := E.pur x hx
              rw [Bool.and_eq_true, decide_eq_true_iff, decide_eq_true_iff, e3, prs_of hT.nd hx]
              exact this
end EZ

set_option Elab.async false
set_option linter.all false
set_option maxRecDepth 100000
set_option maxHeartbeats 4000000
/-! ST: more short steps: sorted numbers, a value in a list of plain ones, lists compared as data. -/
namespace ST
open PySem PySem.Spec PyProof.Rows L2 MP NM DK
theorem datL_map : ∀ ws : List W, datL ws = ws.map datW
  | [] => rfl
  | w :: ws => by
    show datW w :: datL ws = _
    rw [datL_map ws]; rfl
theorem any_pln {n m : Nat} {x : W} {ws : List W} (hx : Pln n x) (hw : ∀ w ∈ ws, Pln m w) : (datL ws).any (fun z => PyData.eqv z (datW x)) = true ↔ x ∈ ws := by
  rw [datL_map, List.any_eq_true]
  constructor
  · rintro ⟨d, hd, e⟩
    obtain ⟨w, hm, rfl⟩ := List.mem_map.mp hd
    rw [← ((hw w hm).eqv hx).mp e]; exact hm
  · intro h
    exact ⟨_, List.mem_map.mpr ⟨x, h, rfl⟩, ((hw x h).eqv (hw x h)).mpr rfl⟩
section
variable {S : Sto} {x y : W} {ws : List W} {n m : Nat} {Q : Bool → Prop}
theorem in_lp (hr : rdL S y = some ws) (hx : Pln n x) (hw : ∀ w ∈ ws, Pln m w) (q : ∀ b : Bool, (b = true ↔ x ∈ ws) → Q b) (hn : n ≤ 60 := by decide) (hm : m ≤ 60 := by decide) : cmpW .In x y S Q := by
  have h : (∃ ws d ds, rdL S y = some ws ∧ Vw S x d ∧ VwL S ws ds ∧ SeqAt.shaped d = true ∧ SeqAt.shaped (.list ds) = true ∧ Q (ds.any fun z => PyData.eqv z d)) :=
    ⟨ws, datW x, datL ws, hr, hx.vw, VwL.of fun w h => (hw w h).vw, hx.shaped (by omega), (Pln.lst m ws hw).shaped (by omega), q _ (any_pln hx hw)⟩
  cases y with
  | ref a => cases x <;> exact .inl h
  | lst us => cases x <;> exact .inl h
  | _ => cases hr
theorem notin_lp (hr : rdL S y = some ws) (hx : Pln n x) (hw : ∀ w ∈ ws, Pln m w) (q : ∀ b : Bool, (b = true ↔ x ∉ ws) → Q b) (hn : n ≤ 60 := by decide) (hm : m ≤ 60 := by decide) : cmpW .NotIn x y S Q := by
  have h : (∃ ws d ds, rdL S y = some ws ∧ Vw S x d ∧ VwL S ws ds ∧ SeqAt.shaped d = true ∧ SeqAt.shaped (.list ds) = true ∧ Q !(ds.any fun z => PyData.eqv z d)) :=
    ⟨ws, datW x, datL ws, hr, hx.vw, VwL.of fun w h => (hw w h).vw, hx.shaped (by omega), (Pln.lst m ws hw).shaped (by omega), q _ (by
      have := any_pln hx hw
      rw [Bool.not_eq_true', ← Bool.not_eq_true, this])⟩
  cases y with
  | ref a => cases x <;> exact .inl h
  | lst us => cases x <;> exact .inl h
  | _ => cases hr
end
/-! ### sorted numbers -/
theorem dLe_int (a b : Int) : dLe (W.int a, .int a) (W.int b, .int b) = decide (a ≤ b) := by
  have := congrFun (congrFun (PySem.W.dataLe_int (fun z : Int => z)) a) b
  exact this
theorem vw_ints {S : Sto} : ∀ is : List Int, VwL S (is.map W.int) (is.map PyData.int)
  | [] => .nil
  | i :: is => .cons (.int i) (vw_ints is)
theorem can_ints : ∀ is : List Int, PyData.canLayAll0 (is.map PyData.int) = true
  | [] => rfl
  | i :: is => can_ints is
theorem dep_ints : ∀ is : List Int, PyData.depthAll (is.map PyData.int) = 0
  | [] => rfl
  | i :: is => by
    show max 0 (PyData.depthAll (is.map PyData.int)) = 0
    rw [dep_ints is]; rfl
theorem zip_mp {α β γ : Type} (f : α → β) (g : α → γ) : ∀ xs : List α, (xs.map f).zip (xs.map g) = xs.map fun x => (f x, g x)
  | [] => rfl
  | x :: xs => by rw [List.map_cons, List.map_cons, List.zip_cons_cons, zip_mp f g xs]; rfl
theorem l_sortI {S : Sto} {x : W} {is : List Int} {Q : WK} (h : rdL S x = some (is.map W.int)) (q : ∀ ys : List Int, ys.Perm is → ys.Pairwise (fun a b => a ≤ b) → Q (.lst (ys.map W.int)) S) : bltW false .sortD [x] S Q := by
  refine ⟨_, _, h, vw_ints is, ?_, .inr ?_, ?_, mk_f ?_⟩
  · intro x hx y hy
    obtain ⟨a, _, rfl⟩ := List.mem_map.mp hx
    obtain ⟨b, _, rfl⟩ := List.mem_map.mp hy
    rfl
  · intro x hx
    obtain ⟨a, _, rfl⟩ := List.mem_map.mp hx
    exact ⟨fun e => (by cases e), fun xs e => (by cases e)⟩
  · show (PyData.canLayAll0 (is.map PyData.int) && decide (PyData.depthAll (is.map PyData.int) + 1 ≤ 64)) = true
    rw [can_ints, dep_ints]; rfl
  · have e : sortW (is.map W.int) (is.map PyData.int) = (is.mergeSort fun a b => decide (a ≤ b)).map W.int := by
      unfold sortW
      rw [zip_mp, ← List.map_mergeSort (r := fun a b : Int => decide (a ≤ b)) (f := fun i => (W.int i, PyData.int i)) (fun a _ b _ => (dLe_int a b).symm), List.map_map]
      rfl
    rw [e]
    refine q _ (List.mergeSort_perm _ _) ?_
    refine List.Pairwise.imp (fun h => of_decide_eq_true h) (List.pairwise_mergeSort (fun a b c h1 h2 => ?_) (fun a b => ?_) is)
    · have h1 := of_decide_eq_true h1
      have h2 := of_decide_eq_true h2
      exact decide_eq_true (Int.le_trans h1 h2)
    · rw [Bool.or_eq_true, decide_eq_true_iff, decide_eq_true_iff]; omega
end ST

set_option Elab.async false
set_option linter.all false
set_option maxRecDepth 100000
set_option maxHeartbeats 4000000
/-! ST2: truths in lists; data that is equal to itself; sums of what is picked. -/
namespace ST
open PySem PySem.Spec PyProof.Rows L2 MP NM DK
/-- plain values, truths too -/
inductive PlB : Nat → W → Prop
  | non (n : Nat) : PlB n .non
  | bl (n : Nat) (b : Bool) : PlB n (.bl b)
  | int (n : Nat) (i : Int) : PlB n (.int i)
  | str (n : Nat) (x : Str) : (PyData.str x).canLay0 = true → PlB n (.str x)
  | tup (n : Nat) (ws : List W) : (∀ w ∈ ws, PlB n w) → PlB (n + 1) (.tup ws)
  | lst (n : Nat) (ws : List W) : (∀ w ∈ ws, PlB n w) → PlB (n + 1) (.lst ws)
section
variable {n m : Nat} {w : W} {S : Sto}
theorem PlB.vw (h : PlB n w) : Vw S w (datW w) := by
  induction h with
  | non => exact .non
  | bl => exact .bl _
  | int => exact .int _
  | str => exact .str _
  | tup n ws _ ih => exact .tup (VwL.of ih)
  | lst n ws _ ih => exact .lst (VwL.of ih)
theorem PlB.can (h : PlB n w) : (datW w).canLay0 = true := by
  induction h with
  | non => rfl
  | bl => rfl
  | int => rfl
  | str n x h => exact h
  | tup n ws _ ih => exact can_all ih
  | lst n ws _ ih => exact can_all ih
theorem PlB.dep (h : PlB n w) : (datW w).depth ≤ n := by
  induction h with
  | non => exact Nat.zero_le _
  | bl => exact Nat.zero_le _
  | int => exact Nat.zero_le _
  | str n x h => exact Nat.zero_le _
  | tup n ws _ ih => exact Nat.succ_le_succ (dep_all ih)
  | lst n ws _ ih => exact Nat.succ_le_succ (dep_all ih)
theorem PlB.shaped (h : PlB n w) (hn : n ≤ 64) : SeqAt.shaped (datW w) = true := by
  show ((datW w).canLay0 && decide ((datW w).depth ≤ 64)) = true
  rw [h.can, decide_eq_true (Nat.le_trans h.dep hn)]; rfl
theorem self_all : ∀ {xs : List W}, (∀ x ∈ xs, PyData.eqv (datW x) (datW x) = true) → PyData.eqvAll (datL xs) (datL xs) = true
  | [], _ => rfl
  | x :: xs, h => by
    show (PyData.eqv (datW x) (datW x) && PyData.eqvAll (datL xs) (datL xs)) = true
    rw [h x (List.mem_cons_self ..), self_all fun y hy => h y (List.mem_cons_of_mem _ hy)]; rfl
theorem PlB.self (h : PlB n w) : PyData.eqv (datW w) (datW w) = true := by
  induction h with
  | non => rfl
  | bl n b => exact beq_self_eq_true b
  | int n i => exact beq_self_eq_true i
  | str n x _ => exact beq_self_eq_true x
  | tup n ws _ ih => exact self_all ih
  | lst n ws _ ih => exact self_all ih
theorem ne_self (h : PlB n w) {Q : Bool → Prop} (q : Q false) (hn : n ≤ 64 := by decide) : cmpW .NotEq w w S Q := by
  have z : eqWk w w S fun b => Q !b := ⟨_, _, h.vw, h.vw, h.shaped hn, h.shaped hn, by rw [h.self]; exact q⟩
  cases w <;> exact z
theorem Pln.b (h : Pln n w) : PlB n w := by
  induction h with
  | non => exact .non _
  | int => exact .int _ _
  | str n x h => exact .str _ _ h
  | tup n ws _ ih => exact .tup _ _ ih
  | lst n ws _ ih => exact .lst _ _ ih
theorem PlB.up (h : PlB n w) (hm : n ≤ m) : PlB m w := by
  induction h generalizing m with
  | non => exact .non _
  | bl => exact .bl _ _
  | int => exact .int _ _
  | str n x h => exact .str _ _ h
  | tup n ws _ ih =>
    obtain ⟨k, rfl⟩ : ∃ k, m = k + 1 := ⟨m - 1, by omega⟩
    exact .tup _ _ fun w hw => ih w hw (by omega)
  | lst n ws _ ih =>
    obtain ⟨k, rfl⟩ : ∃ k, m = k + 1 := ⟨m - 1, by omega⟩
    exact .lst _ _ fun w hw => ih w hw (by omega)
end
theorem in_bls {x : Bool} {bs : List Bool} {S : Sto} {Q : Bool → Prop} (q : ∀ b : Bool, (b = true ↔ x ∈ bs) → Q b) : cmpW .In (.bl x) (.lst (bs.map W.bl)) S Q := by
  have pl : PlB 1 (.lst (bs.map W.bl)) := .lst 0 _ fun w hw => by
    obtain ⟨b, _, rfl⟩ := List.mem_map.mp hw
    exact .bl 0 b
  refine .inl ⟨_, .bool x, datL (bs.map W.bl), rfl, .bl x, VwL.of fun w hw => ?_, rfl, pl.shaped (by decide), q _ ?_⟩
  · obtain ⟨b, _, rfl⟩ := List.mem_map.mp hw
    exact .bl b
  · rw [datL_map, List.any_eq_true]
    constructor
    · rintro ⟨d, hd, e⟩
      obtain ⟨w, hw, rfl⟩ := List.mem_map.mp hd
      obtain ⟨b, hb, rfl⟩ := List.mem_map.mp hw
      have e : (b == x) = true := e
      rw [← eq_of_beq e]; exact hb
    · intro h
      exact ⟨.bool x, List.mem_map.mpr ⟨.bl x, List.mem_map.mpr ⟨x, h, rfl⟩, rfl⟩, beq_self_eq_true x⟩
theorem sum_filter {α : Type} (p : α → Bool) (f : α → Int) : ∀ xs : List α, ((xs.filter p).map f).sum = (xs.map fun x => if p x = true then f x else 0).sum
  | [] => rfl
  | x :: xs => by
    rw [List.filter_cons]
    by_cases h : p x = true
    · rw [if_pos h, List.map_cons, List.sum_cons, List.map_cons, List.sum_cons, if_pos h, sum_filter p f xs]
    · rw [if_neg h, List.map_cons, List.sum_cons, if_neg h, sum_filter p f xs]; omega
theorem sum_sub {α : Type} (f g : α → Int) : ∀ xs : List α, (xs.map fun x => f x - g x).sum = (xs.map f).sum - (xs.map g).sum
  | [] => rfl
  | x :: xs => by
    rw [List.map_cons, List.sum_cons, List.map_cons, List.sum_cons, List.map_cons, List.sum_cons, sum_sub f g xs]; omega
theorem eq_s {x y : Str} {S : Sto} {Q : Bool → Prop} (hx : (PyData.str x).canLay0 = true) (hy : (PyData.str y).canLay0 = true) (q : Q (decide (x = y))) : cmpW .Eq (.str x) (.str y) S Q :=
  eq_p (.str 0 x hx) (.str 0 y hy) fun b hb => by
    have : b = decide (x = y) := by
      rw [Bool.eq_iff_iff, hb, decide_eq_true_iff]
      exact ⟨fun h => by injection h, fun h => by rw [h]⟩
    rw [this]; exact q
end ST

set_option Elab.async false
set_option linter.all false
set_option maxRecDepth 100000
set_option maxHeartbeats 4000000
/-! DU: no exchange moves more than a paper bounds. -/
namespace DU
open PySem PySem.Spec LF LG LI BD EX EY EZ
section
variable {κ : Type} [DecidableEq κ]
theorem one (h : Int) (g : κ → Int) (k0 : κ) : ∀ ks : List κ, ks.Nodup → k0 ∈ ks → (ks.map fun k => (if k0 = k then h else 0) * g k).sum = h * g k0
  | [], _, hm => nomatch hm
  | k :: ks, nd, hm => by
    obtain ⟨n1, n2⟩ := List.nodup_cons.mp nd
    rw [List.map_cons, List.sum_cons]
    by_cases e : k0 = k
    · subst e
      have z : (ks.map fun k => (if k0 = k then h else 0) * g k).sum = 0 := by
        clear nd n2 hm
        induction ks with
        | nil => rfl
        | cons x ks ih =>
          rw [List.map_cons, List.sum_cons, if_neg (fun e : k0 = x => n1 (by rw [e]; exact List.mem_cons_self)), ih fun z => n1 (List.mem_cons_of_mem _ z)]; omega
      rw [if_pos rfl, z]; omega
    · rw [if_neg e, one h g k0 ks n2 ((List.mem_cons.mp hm).resolve_left e)]; omega
theorem add_map {α : Type} (f g : α → Int) : ∀ xs : List α, (xs.map fun x => f x + g x).sum = (xs.map f).sum + (xs.map g).sum
  | [] => rfl
  | x :: xs => by
    rw [List.map_cons, List.sum_cons, List.map_cons, List.sum_cons, List.map_cons, List.sum_cons, add_map f g xs]; omega
theorem sub_map {α : Type} (f g : α → Int) : ∀ xs : List α, (xs.map fun x => f x - g x).sum = (xs.map f).sum - (xs.map g).sum
  | [] => rfl
  | x :: xs => by
    rw [List.map_cons, List.sum_cons, List.map_cons, List.sum_cons, List.map_cons, List.sum_cons, sub_map f g xs]; omega
theorem zero_map {α : Type} : ∀ xs : List α, (xs.map fun _ => (0 : Int)).sum = 0
  | [] => rfl
  | x :: xs => by rw [List.map_cons, List.sum_cons, zero_map xs]; rfl
theorem le_map {α : Type} {f g : α → Int} : ∀ {xs : List α}, (∀ x ∈ xs, f x ≤ g x) → (xs.map f).sum ≤ (xs.map g).sum
  | [], _ => Int.le_refl _
  | x :: xs, h => by
    have h1 := h x List.mem_cons_self
    have h2 := le_map (xs := xs) fun y hy => h y (List.mem_cons_of_mem _ hy)
    rw [List.map_cons, List.sum_cons, List.map_cons, List.sum_cons]; omega
theorem nn_map {α : Type} {f : α → Int} {xs : List α} (h : ∀ x ∈ xs, 0 ≤ f x) : 0 ≤ (xs.map f).sum := by
  have := le_map (f := fun _ => 0) h
  rwa [zero_map] at this
abbrev at' (f : J4 → κ) (js : List J4) (k : κ) : Int := (js.map fun j => if f j = k then j.2.2.2 else 0).sum
theorem by_key {ks : List κ} (nd : ks.Nodup) (f : J4 → κ) (g : κ → Int) : ∀ js : List J4, (∀ j ∈ js, f j ∈ ks) → (js.map fun j => j.2.2.2 * g (f j)).sum = (ks.map fun k => at' f js k * g k).sum
  | [], _ => by
    rw [show (ks.map fun k => at' f [] k * g k) = ks.map fun _ => 0 from List.map_congr_left fun k _ => Int.zero_mul _, zero_map]; rfl
  | j :: js, h => by
    have e : (ks.map fun k => at' f (j :: js) k * g k) = ks.map fun k => (if f j = k then j.2.2.2 else 0) * g k + at' f js k * g k := List.map_congr_left fun k _ => by
      show (((j :: js).map fun j => if f j = k then j.2.2.2 else 0).sum) * g k = _
      rw [List.map_cons, List.sum_cons, Int.add_mul]
    rw [e, add_map, one _ _ _ _ nd (h j List.mem_cons_self), List.map_cons, List.sum_cons, by_key nd f g js fun y hy => h y (List.mem_cons_of_mem _ hy)]
end
theorem part {s h v : Int} (h0 : 0 ≤ s) (h1 : s ≤ h) : s * v ≤ h * max 0 v := by
  rcases Int.le_total 0 v with c | c
  · rw [Int.max_eq_right c]
    exact Int.mul_le_mul_of_nonneg_right h1 c
  · rw [Int.max_eq_left c, Int.mul_zero]
    have := Int.mul_le_mul_of_nonneg_right h0 (show 0 ≤ -v by omega)
    rw [Int.zero_mul, Int.mul_neg] at this
    omega
theorem purse {c p a b : Int} (h1 : -c ≤ a) (h2 : c ≤ b) : -(c * p) ≤ max 0 p * a + max 0 (0 - p) * b := by
  rcases Int.le_total 0 p with z | z
  · rw [Int.max_eq_right z, Int.max_eq_left (show 0 - p ≤ 0 by omega), Int.zero_mul]
    have := Int.mul_le_mul_of_nonneg_right h1 z
    rw [Int.neg_mul, Int.mul_comm a p] at this
    omega
  · rw [Int.max_eq_left z, Int.max_eq_right (show 0 ≤ 0 - p by omega), Int.zero_mul]
    have := Int.mul_le_mul_of_nonneg_right h2 (show 0 ≤ 0 - p by omega)
    rw [Int.zero_sub, Int.mul_neg, Int.mul_comm b] at this
    rw [Int.zero_sub]
    omega
theorem come_at (js : List J4) (n : Str) : come js n = at' (fun j : J4 => j.1) js n - at' (fun j : J4 => j.2.1) js n := by
  exact sub_map (fun j : J4 => if j.1 = n then j.2.2.2 else 0) (fun j : J4 => if j.2.1 = n then j.2.2.2 else 0) js
theorem split4 (P S T : J4 → Int) : ∀ js : List J4, (js.map fun j => j.2.2.2).sum = (js.map fun j => j.2.2.2 * (1 - S j + P j)).sum + (js.map fun j => j.2.2.2 * (S j - T j)).sum + (js.map fun j => j.2.2.2 * T j).sum - (js.map fun j => j.2.2.2 * P j).sum
  | [] => rfl
  | j :: js => by
    have e := split4 P S T js
    have e1 : j.2.2.2 * (1 - S j + P j) = j.2.2.2 - j.2.2.2 * S j + j.2.2.2 * P j := by rw [Int.mul_add, Int.mul_sub, Int.mul_one]
    have e2 : j.2.2.2 * (S j - T j) = j.2.2.2 * S j - j.2.2.2 * T j := Int.mul_sub _ _ _
    simp only [List.map_cons, List.sum_cons]
    omega
theorem dual {town : List Nb} {os us : List En} {js : List J4} (hT : TownOk town) (hD : DayOk town (os ++ us)) (E : Ex town os us js) (kis : List Kp) : (js.map fun j => j.2.2.2).sum ≤ boundF town os us kis := by
  obtain ⟨ndo, ndu⟩ := nd_app hD.nd
  have mo : ∀ j ∈ js, j.1 ∈ town.map (·.1) := fun j hj => by
    obtain ⟨x, hx, e⟩ := List.mem_map.mp (E.job j hj).2.1
    have e : x.1 = j.1 := congrArg (fun k : K2 => k.1) e
    rw [← e]; exact hD.nm x (List.mem_append.mpr (.inl hx))
  have mu : ∀ j ∈ js, j.2.1 ∈ town.map (·.1) := fun j hj => by
    obtain ⟨x, hx, e⟩ := List.mem_map.mp (E.job j hj).2.2
    have e : x.1 = j.2.1 := congrArg (fun k : K2 => k.1) e
    rw [← e]; exact hD.nm x (List.mem_append.mpr (.inr hx))
  have nn : ∀ (f : J4 → K2) (k : K2), 0 ≤ spent f js k := fun f k => nn_map fun j hj => by
    have := (E.job j hj).1
    show 0 ≤ if f j = k then j.2.2.2 else 0
    split <;> omega
  have a1 := by_key ndo gv (fun k => 1 - prc kis (kS k.2) + prc kis (kN k.1)) js fun j hj => (E.job j hj).2.1
  have a2 := by_key ndu tk (fun k => prc kis (kS k.2) - prc kis (kN k.1)) js fun j hj => (E.job j hj).2.2
  have a3 := by_key hT.nd (fun j : J4 => j.1) (fun n => prc kis (kN n)) js mo
  have a4 := by_key hT.nd (fun j : J4 => j.2.1) (fun n => prc kis (kN n)) js mu
  rw [List.map_map] at a1 a2 a3 a4
  have b1 : ((os.map ((fun k => at' gv js k * (1 - prc kis (kS k.2) + prc kis (kN k.1))) ∘ key)).sum) ≤ (os.map (gO kis)).sum := le_map fun x hx => part (nn gv (key x)) (E.off x hx)
  have b2 : ((us.map ((fun k => at' tk js k * (prc kis (kS k.2) - prc kis (kN k.1))) ∘ key)).sum) ≤ (us.map (gU kis)).sum := le_map fun x hx => part (nn tk (key x)) (E.wsh x hx)
  have b3 : (town.map ((fun n => at' (fun j : J4 => j.2.1) js n * prc kis (kN n)) ∘ (·.1))).sum ≤ (town.map fun x => gT kis x + at' (fun j : J4 => j.1) js x.1 * prc kis (kN x.1)).sum := le_map fun x hx => by
    obtain ⟨p1, p2⟩ := E.pur x hx
    have z := purse (c := come js x.1) (p := prc kis (kN x.1)) (a := x.2.1 - x.2.2.1) (b := x.2.2.2 - x.2.1) (by omega) (by omega)
    rw [come_at, Int.sub_mul] at z
    show at' (fun j : J4 => j.2.1) js x.1 * prc kis (kN x.1) ≤ (max 0 (prc kis (kN x.1)) * (x.2.1 - x.2.2.1) + max 0 (0 - prc kis (kN x.1)) * (x.2.2.2 - x.2.1)) + _
    omega
  rw [add_map] at b3
  have sp := split4 (fun j => prc kis (kN j.1)) (fun j => prc kis (kS j.2.2.1)) (fun j => prc kis (kN j.2.1)) js
  unfold boundF
  have c3 : (town.map ((fun n => at' (fun j : J4 => j.1) js n * prc kis (kN n)) ∘ (·.1))).sum = (town.map fun x => at' (fun j : J4 => j.1) js x.1 * prc kis (kN x.1)).sum := rfl
  have d1 : (js.map fun j => j.2.2.2 * (1 - prc kis (kS j.2.2.1) + prc kis (kN j.1))).sum = (js.map fun j => j.2.2.2 * (1 - prc kis (kS (gv j).2) + prc kis (kN (gv j).1))).sum := rfl
  have d2 : (js.map fun j => j.2.2.2 * (prc kis (kS j.2.2.1) - prc kis (kN j.2.1))).sum = (js.map fun j => j.2.2.2 * (prc kis (kS (tk j).2) - prc kis (kN (tk j).1))).sum := rfl
  omega
end DU

set_option Elab.async false
set_option linter.all false
set_option maxRecDepth 100000
set_option maxHeartbeats 4000000
namespace K07
open PySem PySem.Spec PyProof.Rows L2 MP
def topS (i : Nat) : Stmt := PySem.Challenge.pw_hourring_k07_whole_none_moves_more.main.body.getD i (.Pass ⟨0, 0, 0, 0⟩)
def Gm : Gv := { fns := [("is_name", 1), ("is_row", 2), ("is_job", 3), ("is_exchange", 3), ("moved", 1), ("bound", 3), ("_law_draw", 3), ("_law_names", 3), ("_law_hours", 2), ("_law_town", 3), ("_law_day", 4), ("_law_skills", 1), ("_law_prices", 4), ("_law_is_exchange", 3), ("_law_pairs", 1), ("_law_jobs", 4), ("_law_ring", 2), ("law", 1)], glb := [("MOST_NAME", (.int 8)), ("LETTERS", (.str "abcdefghijklmnopqrstuvwxyz"))] }
/-! 0: is_name -/
abbrev st0 : Stmt := topS 3
def N0 : List Str := ["thing", "letter"]
def P0 : List Str := ["thing"]
def c0 : CS := EX.c_is_name 
theorem z0 : FnScope N0 P0 (defScope st0) := ⟨rfl, rfl, rfl, by decide +kernel, rfl, by decide +kernel, by decide +kernel⟩
theorem k0 : (cks Gm N0 0 c0).b ⟨defScope st0, none⟩ (defBody st0) = true := by decide +kernel
/-! 1: is_row -/
abbrev st1 : Stmt := topS 4
def N1 : List Str := ["thing", "many"]
def P1 : List Str := ["thing", "many"]
def c1 : CS := EX.c_is_row 
theorem z1 : FnScope N1 P1 (defScope st1) := ⟨rfl, rfl, rfl, by decide +kernel, rfl, by decide +kernel, by decide +kernel⟩
theorem k1 : (cks Gm N1 1 c1).b ⟨defScope st1, none⟩ (defBody st1) = true := by decide +kernel
/-! 2: is_job -/
abbrev st2 : Stmt := topS 5
def N2 : List Str := ["thing", "offers", "wishes", "name"]
def P2 : List Str := ["thing", "offers", "wishes"]
def c2 : CS := EX.c_is_job 1 0
theorem z2 : FnScope N2 P2 (defScope st2) := ⟨rfl, rfl, rfl, by decide +kernel, rfl, by decide +kernel, by decide +kernel⟩
theorem k2 : (cks Gm N2 2 c2).b ⟨defScope st2, none⟩ (defBody st2) = true := by decide +kernel
/-! 3: is_exchange -/
abbrev st3 : Stmt := topS 6
def N3 : List Str := ["town", "day", "jobs", "offers", "wishes", "purses", "giver", "taker", "skill", "hours", "one", "left", "job"]
def P3 : List Str := ["town", "day", "jobs"]
def c3 : CS := EX.c_is_exchange 2
theorem z3 : FnScope N3 P3 (defScope st3) := ⟨rfl, rfl, rfl, by decide +kernel, rfl, by decide +kernel, by decide +kernel⟩
theorem k3 : (cks Gm N3 3 c3).b ⟨defScope st3, none⟩ (defBody st3) = true := by decide +kernel
/-! 4: moved -/
abbrev st4 : Stmt := topS 7
def N4 : List Str := ["jobs", "job"]
def P4 : List Str := ["jobs"]
def c4 : CS := EX.c_moved 
theorem z4 : FnScope N4 P4 (defScope st4) := ⟨rfl, rfl, rfl, by decide +kernel, rfl, by decide +kernel, by decide +kernel⟩
theorem k4 : (cks Gm N4 4 c4).b ⟨defScope st4, none⟩ (defBody st4) = true := by decide +kernel
/-! 5: bound -/
abbrev st5 : Stmt := topS 9
def N5 : List Str := ["town", "day", "prices", "found", "name", "skill", "hours", "purse", "floor", "ceiling", "price"]
def P5 : List Str := ["town", "day", "prices"]
def c5 : CS := BD.c_bound 
theorem z5 : FnScope N5 P5 (defScope st5) := ⟨rfl, rfl, rfl, by decide +kernel, rfl, by decide +kernel, by decide +kernel⟩
theorem k5 : (cks Gm N5 5 c5).b ⟨defScope st5, none⟩ (defBody st5) = true := by decide +kernel
/-! 6: _law_draw -/
abbrev st6 : Stmt := topS 11
def N6 : List Str := ["_law_script", "_law_at", "_law_many", "_law_k", "_law_cells", "_law_number"]
def P6 : List Str := ["_law_script", "_law_at", "_law_many"]
def c6 : CS := LF.c_draw 
theorem z6 : FnScope N6 P6 (defScope st6) := ⟨rfl, rfl, rfl, by decide +kernel, rfl, by decide +kernel, by decide +kernel⟩
theorem k6 : (cks Gm N6 6 c6).b ⟨defScope st6, none⟩ (defBody st6) = true := by decide +kernel
/-! 7: _law_names -/
abbrev st7 : Stmt := topS 12
def N7 : List Str := ["_law_script", "_law_at", "_law_many", "_law_letters", "_law_tail", "_law_first", "_law_size", "_law_place", "_law_most", "_law_k", "_law_j"]
def P7 : List Str := ["_law_script", "_law_at", "_law_many"]
def c7 : CS := LF.c_names 6
theorem z7 : FnScope N7 P7 (defScope st7) := ⟨rfl, rfl, rfl, by decide +kernel, rfl, by decide +kernel, by decide +kernel⟩
theorem k7 : (cks Gm N7 7 c7).b ⟨defScope st7, none⟩ (defBody st7) = true := by decide +kernel
/-! 8: _law_hours -/
abbrev st8 : Stmt := topS 13
def N8 : List Str := ["_law_script", "_law_at", "_law_small", "_law_wide"]
def P8 : List Str := ["_law_script", "_law_at"]
def c8 : CS := LF.c_hours 6
theorem z8 : FnScope N8 P8 (defScope st8) := ⟨rfl, rfl, rfl, by decide +kernel, rfl, by decide +kernel, by decide +kernel⟩
theorem k8 : (cks Gm N8 8 c8).b ⟨defScope st8, none⟩ (defBody st8) = true := by decide +kernel
/-! 9: _law_town -/
abbrev st9 : Stmt := topS 14
def N9 : List Str := ["_law_script", "_law_at", "_law_many", "_law_found", "_law_name", "_law_great", "_law_purse", "_law_below", "_law_over", "_law_k"]
def P9 : List Str := ["_law_script", "_law_at", "_law_many"]
def c9 : CS := LF.c_town 7 6 8
theorem z9 : FnScope N9 P9 (defScope st9) := ⟨rfl, rfl, rfl, by decide +kernel, rfl, by decide +kernel, by decide +kernel⟩
theorem k9 : (cks Gm N9 9 c9).b ⟨defScope st9, none⟩ (defBody st9) = true := by decide +kernel
/-! 10: _law_day -/
abbrev st10 : Stmt := topS 15
def N10 : List Str := ["_law_script", "_law_at", "_law_town_here", "_law_most", "_law_skills_here", "_law_found", "_law_seen", "_law_k", "_law_name", "_law_skill", "_law_side", "_law_hours_here"]
def P10 : List Str := ["_law_script", "_law_at", "_law_town_here", "_law_most"]
def c10 : CS := LF.c_day 7 6 8
theorem z10 : FnScope N10 P10 (defScope st10) := ⟨rfl, rfl, rfl, by decide +kernel, rfl, by decide +kernel, by decide +kernel⟩
theorem k10 : (cks Gm N10 10 c10).b ⟨defScope st10, none⟩ (defBody st10) = true := by decide +kernel
/-! 11: _law_skills -/
abbrev st11 : Stmt := topS 16
def N11 : List Str := ["_law_day_here", "_law_one"]
def P11 : List Str := ["_law_day_here"]
def c11 : CS := LF.c_skills 
theorem z11 : FnScope N11 P11 (defScope st11) := ⟨rfl, rfl, rfl, by decide +kernel, rfl, by decide +kernel, by decide +kernel⟩
theorem k11 : (cks Gm N11 11 c11).b ⟨defScope st11, none⟩ (defBody st11) = true := by decide +kernel
/-! 12: _law_prices -/
abbrev st12 : Stmt := topS 17
def N12 : List Str := ["_law_script", "_law_at", "_law_town_here", "_law_day_here", "_law_found", "_law_key", "_law_small", "_law_one", "_law_skill"]
def P12 : List Str := ["_law_script", "_law_at", "_law_town_here", "_law_day_here"]
def c12 : CS := LF.c_prices 6 11
theorem z12 : FnScope N12 P12 (defScope st12) := ⟨rfl, rfl, rfl, by decide +kernel, rfl, by decide +kernel, by decide +kernel⟩
theorem k12 : (cks Gm N12 12 c12).b ⟨defScope st12, none⟩ (defBody st12) = true := by decide +kernel
/-! 13: _law_is_exchange -/
abbrev st13 : Stmt := topS 18
def N13 : List Str := ["_law_town_here", "_law_day_here", "_law_jobs_here", "_law_left", "_law_purses", "_law_seen", "_law_side", "_law_giver", "_law_taker", "_law_skill", "_law_hours_here", "_law_one", "_law_key"]
def P13 : List Str := ["_law_town_here", "_law_day_here", "_law_jobs_here"]
def c13 : CS :=
  (.seq (.asg (.tnm 3) (.lc false [("_law_side", 6)] (.tnm 6) (.iseq (.var 1)) .nil (.blt .dictT false (.cons (.lc false [("_law_one", 11)] (.tnm 11) (.iseq (.var 6)) .nil (.tup (.cons (.slc false (.var 11) .nil (.cst (.int 2))) (.cons (.idx (.var 11) (.cst (.int 2))) .nil)))) .nil)))) (.seq (.asg (.tnm 4) (.blt .dictK false (.cons (.lc false [("_law_one", 11)] (.tnm 11) (.iseq (.var 0)) .nil (.tup (.cons (.idx (.var 11) (.cst (.int 0))) (.cons (.idx (.var 11) (.cst (.int 1))) .nil)))) .nil))) (.seq (.asg (.tnm 5) (.dnew true)) (.seq (.fr (.ttup (.cons (.tnm 7) (.cons (.tnm 8) (.cons (.tnm 9) (.cons (.tnm 10) .nil))))) (.iseq (.var 2)) (.seq (.iff (.or (.cons (.cmp .NotIn (.tup (.cons (.var 7) (.cons (.var 9) .nil))) (.idx (.var 3) (.cst (.int 0)))) (.cons (.cmp .NotIn (.tup (.cons (.var 8) (.cons (.var 9) .nil))) (.idx (.var 3) (.cst (.int 1)))) (.cons (.cmp .Lt (.var 10) (.cst (.int 1))) .nil)))) (.seq (.ret (.cst (.bool false))) .nil) .nil) (.seq (.iff (.cmp .In (.tup (.cons (.var 7) (.cons (.var 8) (.cons (.var 9) .nil)))) (.var 5)) (.seq (.ret (.cst (.bool false))) .nil) .nil) (.seq (.asg (.tsub (.var 5) (.tup (.cons (.var 7) (.cons (.var 8) (.cons (.var 9) .nil))))) (.cst (.bool true))) (.seq (.asg (.tsub (.idx (.var 3) (.cst (.int 0))) (.tup (.cons (.var 7) (.cons (.var 9) .nil)))) (.bin false .sub (.idx (.idx (.var 3) (.cst (.int 0))) (.tup (.cons (.var 7) (.cons (.var 9) .nil)))) (.var 10))) (.seq (.asg (.tsub (.idx (.var 3) (.cst (.int 1))) (.tup (.cons (.var 8) (.cons (.var 9) .nil)))) (.bin false .sub (.idx (.idx (.var 3) (.cst (.int 1))) (.tup (.cons (.var 8) (.cons (.var 9) .nil)))) (.var 10))) (.seq (.asg (.tsub (.var 4) (.var 7)) (.bin false .add (.idx (.var 4) (.var 7)) (.var 10))) (.seq (.asg (.tsub (.var 4) (.var 8)) (.bin false .sub (.idx (.var 4) (.var 8)) (.var 10))) .nil)))))))) (.seq (.fr (.tnm 6) (.iseq (.var 3)) (.seq (.iff (.cmp .NotEq (.lck (.lc false [("_law_key", 12)] (.tnm 12) (.ikeys (.var 6)) (.cons (.cmp .Lt (.idx (.var 6) (.var 12)) (.cst (.int 0))) .nil) (.var 12))) (.lst false .nil)) (.seq (.ret (.cst (.bool false))) .nil) .nil) .nil)) (.seq (.ret (.cmp .Eq (.lc false [("_law_one", 11)] (.tnm 11) (.iseq (.var 0)) (.cons (.nt (.chain .LtE .LtE (.idx (.var 11) (.cst (.int 2))) (.idx (.var 4) (.idx (.var 11) (.cst (.int 0)))) (.idx (.var 11) (.cst (.int 3))))) .nil) (.var 11)) (.lst false .nil))) .nil))))))
theorem z13 : FnScope N13 P13 (defScope st13) := ⟨rfl, rfl, rfl, by decide +kernel, rfl, by decide +kernel, by decide +kernel⟩
theorem k13 : (cks Gm N13 13 c13).b ⟨defScope st13, none⟩ (defBody st13) = true := by decide +kernel
/-! 14: _law_pairs -/
abbrev st14 : Stmt := topS 19
def N14 : List Str := ["_law_day_here", "_law_found", "_law_name", "_law_skill", "_law_hours_here", "_law_one"]
def P14 : List Str := ["_law_day_here"]
def c14 : CS :=
  (.seq (.asg (.tnm 1) (.lst false .nil)) (.seq (.fr (.ttup (.cons (.tnm 2) (.cons (.tnm 3) (.cons (.tnm 4) .nil)))) (.iseq (.idx (.var 0) (.cst (.int 0)))) (.seq (.asg (.tnm 1) (.bin false .add (.var 1) (.lc false [("_law_one", 5)] (.tnm 5) (.iseq (.idx (.var 0) (.cst (.int 1)))) (.cons (.cmp .Eq (.idx (.var 5) (.cst (.int 1))) (.var 3)) .nil) (.tup (.cons (.var 2) (.cons (.idx (.var 5) (.cst (.int 0))) (.cons (.var 3) .nil))))))) .nil)) (.seq (.ret (.var 1)) .nil)))
theorem z14 : FnScope N14 P14 (defScope st14) := ⟨rfl, rfl, rfl, by decide +kernel, rfl, by decide +kernel, by decide +kernel⟩
theorem k14 : (cks Gm N14 14 c14).b ⟨defScope st14, none⟩ (defBody st14) = true := by decide +kernel
/-! 15: _law_jobs -/
abbrev st15 : Stmt := topS 20
def N15 : List Str := ["_law_script", "_law_at", "_law_town_here", "_law_day_here", "_law_left", "_law_over", "_law_under", "_law_found", "_law_giver", "_law_taker", "_law_skill", "_law_most", "_law_hours_here", "_law_side", "_law_one"]
def P15 : List Str := ["_law_script", "_law_at", "_law_town_here", "_law_day_here"]
def c15 : CS :=
  (.seq (.asg (.tnm 4) (.lc false [("_law_side", 13)] (.tnm 13) (.iseq (.var 3)) .nil (.blt .dictT false (.cons (.lc false [("_law_one", 14)] (.tnm 14) (.iseq (.var 13)) .nil (.tup (.cons (.slc false (.var 14) .nil (.cst (.int 2))) (.cons (.idx (.var 14) (.cst (.int 2))) .nil)))) .nil)))) (.seq (.asg (.tnm 5) (.blt .dictK false (.cons (.lc false [("_law_one", 14)] (.tnm 14) (.iseq (.var 2)) .nil (.tup (.cons (.idx (.var 14) (.cst (.int 0))) (.cons (.bin false .sub (.idx (.var 14) (.cst (.int 3))) (.idx (.var 14) (.cst (.int 1)))) .nil)))) .nil))) (.seq (.asg (.tnm 6) (.blt .dictK false (.cons (.lc false [("_law_one", 14)] (.tnm 14) (.iseq (.var 2)) .nil (.tup (.cons (.idx (.var 14) (.cst (.int 0))) (.cons (.bin false .sub (.idx (.var 14) (.cst (.int 1))) (.idx (.var 14) (.cst (.int 2)))) .nil)))) .nil))) (.seq (.asg (.tnm 7) (.lst true .nil)) (.seq (.fr (.ttup (.cons (.tnm 8) (.cons (.tnm 9) (.cons (.tnm 10) .nil)))) (.iseq (.call 14 (.cons (.var 3) .nil))) (.seq (.asg (.tnm 11) (.blt .min4 false (.cons (.idx (.idx (.var 4) (.cst (.int 0))) (.tup (.cons (.var 8) (.cons (.var 10) .nil)))) (.cons (.idx (.idx (.var 4) (.cst (.int 1))) (.tup (.cons (.var 9) (.cons (.var 10) .nil)))) (.cons (.idx (.var 5) (.var 8)) (.cons (.idx (.var 6) (.var 9)) .nil)))))) (.seq (.asg (.tnm 12) (.blt .min2 false (.cons (.var 11) (.cons (.idx (.lst false (.cons (.var 11) (.cons (.var 11) (.cons (.cst (.int 1)) (.cons (.call 8 (.cons (.var 0) (.cons (.var 1) .nil))) .nil))))) (.call 6 (.cons (.var 0) (.cons (.var 1) (.cons (.cst (.int 4)) .nil))))) .nil)))) (.seq (.iff (.an (.cons (.cmp .Gt (.var 12) (.cst (.int 0))) (.cons (.cmp .Gt (.call 6 (.cons (.var 0) (.cons (.var 1) (.cons (.cst (.int 4)) .nil)))) (.cst (.int 0))) .nil))) (.seq (.expr (.mth .append (.var 7) (.cons (.tup (.cons (.var 8) (.cons (.var 9) (.cons (.var 10) (.cons (.var 12) .nil))))) .nil))) (.seq (.asg (.tsub (.idx (.var 4) (.cst (.int 0))) (.tup (.cons (.var 8) (.cons (.var 10) .nil)))) (.bin false .sub (.idx (.idx (.var 4) (.cst (.int 0))) (.tup (.cons (.var 8) (.cons (.var 10) .nil)))) (.var 12))) (.seq (.asg (.tsub (.idx (.var 4) (.cst (.int 1))) (.tup (.cons (.var 9) (.cons (.var 10) .nil)))) (.bin false .sub (.idx (.idx (.var 4) (.cst (.int 1))) (.tup (.cons (.var 9) (.cons (.var 10) .nil)))) (.var 12))) (.seq (.asg (.tsub (.var 5) (.var 8)) (.bin false .sub (.idx (.var 5) (.var 8)) (.var 12))) (.seq (.asg (.tsub (.var 5) (.var 9)) (.bin false .add (.idx (.var 5) (.var 9)) (.var 12))) (.seq (.asg (.tsub (.var 6) (.var 8)) (.bin false .add (.idx (.var 6) (.var 8)) (.var 12))) (.seq (.asg (.tsub (.var 6) (.var 9)) (.bin false .sub (.idx (.var 6) (.var 9)) (.var 12))) .nil))))))) .nil) .nil)))) (.seq (.gfrz 7) (.seq (.ret (.var 7)) .nil)))))))
theorem z15 : FnScope N15 P15 (defScope st15) := ⟨rfl, rfl, rfl, by decide +kernel, rfl, by decide +kernel, by decide +kernel⟩
theorem k15 : (cks Gm N15 15 c15).b ⟨defScope st15, none⟩ (defBody st15) = true := by decide +kernel
/-! 16: _law_ring -/
abbrev st16 : Stmt := topS 21
def N16 : List Str := ["_law_script", "_law_at", "_law_many", "_law_town_here", "_law_names_here", "_law_skills_here", "_law_least", "_law_more", "_law_spot", "_law_hours_here", "_law_offers", "_law_wishes", "_law_jobs_here", "_law_prices_here", "_law_price", "_law_turn", "_law_place", "_law_key", "_law_one", "_law_k", "_law_name", "_law_purse"]
def P16 : List Str := ["_law_script", "_law_at"]
def c16 : CS :=
  (.seq (.asg (.tnm 2) (.bin false .add (.cst (.int 2)) (.call 6 (.cons (.var 0) (.cons (.var 1) (.cons (.cst (.int 11)) .nil)))))) (.seq (.asg (.tnm 3) (.lc false [("_law_name", 20), ("_law_purse", 21)] (.ttup (.cons (.tnm 20) (.cons (.tnm 21) .nil))) (.izip (.call 7 (.cons (.var 0) (.cons (.var 1) (.cons (.var 2) .nil)))) (.bin false .mul (.lst false (.cons (.cst (.int 3)) (.cons (.cst (.int 0)) (.cons (.neg (.cst (.int 7))) .nil)))) (.cst (.int 4)))) .nil (.tup (.cons (.var 20) (.cons (.var 21) (.cons (.var 21) (.cons (.var 21) .nil))))))) (.seq (.asg (.tnm 4) (.lc false [("_law_one", 18)] (.tnm 18) (.iseq (.var 3)) .nil (.idx (.var 18) (.cst (.int 0))))) (.seq (.asg (.tnm 5) (.call 7 (.cons (.var 0) (.cons (.var 1) (.cons (.var 2) .nil))))) (.seq (.asg (.tnm 6) (.call 8 (.cons (.var 0) (.cons (.var 1) .nil)))) (.seq (.asg (.tnm 7) (.lc true [("_law_k", 19)] (.tnm 19) (.irng1 (.bin false .mul (.cst (.int 2)) (.var 2))) .nil (.idx (.lst false (.cons (.cst (.int 0)) (.cons (.cst (.int 1)) (.cons (.bin false .sub (.bin false .pow (.cst (.int 10)) (.cst (.int 30))) (.var 6)) .nil)))) (.call 6 (.cons (.var 0) (.cons (.var 1) (.cons (.cst (.int 3)) .nil))))))) (.seq (.asg (.tnm 8) (.call 6 (.cons (.var 0) (.cons (.var 1) (.cons (.bin false .mul (.cst (.int 2)) (.var 2)) .nil))))) (.seq (.asg (.tsub (.var 7) (.var 8)) (.cst (.int 0))) (.seq (.asg (.tnm 9) (.lc false [("_law_one", 18)] (.tnm 18) (.iseq (.var 7)) .nil (.blt .min2 false (.cons (.bin false .pow (.cst (.int 10)) (.cst (.int 30))) (.cons (.bin false .add (.var 6) (.var 18)) .nil))))) (.seq (.asg (.tnm 10) (.lc false [("_law_k", 19)] (.tnm 19) (.irng1 (.var 2)) .nil (.tup (.cons (.idx (.var 4) (.var 19)) (.cons (.idx (.var 5) (.var 19)) (.cons (.idx (.var 9) (.bin false .mul (.cst (.int 2)) (.var 19))) .nil)))))) (.seq (.asg (.tnm 11) (.lc false [("_law_k", 19)] (.tnm 19) (.irng1 (.var 2)) .nil (.tup (.cons (.idx (.var 4) (.bin false .mod (.bin false .add (.var 19) (.cst (.int 1))) (.var 2))) (.cons (.idx (.var 5) (.var 19)) (.cons (.idx (.var 9) (.bin false .add (.bin false .mul (.cst (.int 2)) (.var 19)) (.cst (.int 1)))) .nil)))))) (.seq (.asg (.tnm 12) (.lc false [("_law_k", 19)] (.tnm 19) (.irng1 (.var 2)) .nil (.tup (.cons (.idx (.var 4) (.var 19)) (.cons (.idx (.var 4) (.bin false .mod (.bin false .add (.var 19) (.cst (.int 1))) (.var 2))) (.cons (.idx (.var 5) (.var 19)) (.cons (.var 6) .nil))))))) (.seq (.asg (.tnm 13) (.dnew true)) (.seq (.asg (.tnm 14) (.cst (.int 0))) (.seq (.fr (.tnm 15) (.irng1 (.bin false .mul (.cst (.int 2)) (.var 2))) (.seq (.asg (.tnm 16) (.bin false .mod (.bin false .add (.bin false .add (.var 8) (.cst (.int 1))) (.var 15)) (.bin false .mul (.cst (.int 2)) (.var 2)))) (.seq (.asg (.tnm 17) (.ife (.cmp .Eq (.bin false .mod (.var 16) (.cst (.int 2))) (.cst (.int 1))) (.tup (.cons (.cst (.str "skill")) (.cons (.idx (.var 5) (.bin false .fdiv (.var 16) (.cst (.int 2)))) .nil))) (.tup (.cons (.cst (.str "name")) (.cons (.idx (.var 4) (.bin false .fdiv (.var 16) (.cst (.int 2)))) .nil))))) (.seq (.asg (.tsub (.var 13) (.var 17)) (.var 14)) (.seq (.asg (.tnm 14) (.bin false .add (.var 14) (.blt .int false (.cons (.cmp .Eq (.bin false .mod (.var 16) (.cst (.int 2))) (.cst (.int 0))) .nil)))) .nil))))) (.seq (.ret (.tup (.cons (.var 3) (.cons (.tup (.cons (.var 10) (.cons (.var 11) .nil))) (.cons (.var 12) (.cons (.var 13) .nil)))))) .nil))))))))))))))))
theorem z16 : FnScope N16 P16 (defScope st16) := ⟨rfl, rfl, rfl, by decide +kernel, rfl, by decide +kernel, by decide +kernel⟩
theorem k16 : (cks Gm N16 16 c16).b ⟨defScope st16, none⟩ (defBody st16) = true := by decide +kernel
/-! 17: law -/
abbrev st17 : Stmt := topS 22
def N17 : List Str := ["_law_script", "_law_at", "_law_k", "_law_many", "_law_town_here", "_law_day_here", "_law_jobs_here", "_law_turn", "_law_prices_here", "_law_job"]
def P17 : List Str := ["_law_script"]
def c17 : CS :=
  (.seq (.asg (.tnm 1) (.lst true (.cons (.cst (.int 0)) .nil))) (.seq (.fr (.tnm 2) (.irng1 (.blt .max2 false (.cons (.cst (.int 3)) (.cons (.blt .len false (.cons (.var 0) .nil)) .nil)))) (.seq (.asg (.tnm 3) (.idx (.lst false (.cons (.cst (.int 2)) (.cons (.cst (.int 4)) (.cons (.cst (.int 12)) .nil)))) (.call 6 (.cons (.var 0) (.cons (.var 1) (.cons (.cst (.int 3)) .nil)))))) (.seq (.asg (.tnm 4) (.call 9 (.cons (.var 0) (.cons (.var 1) (.cons (.var 3) .nil))))) (.seq (.asg (.tnm 5) (.call 10 (.cons (.var 0) (.cons (.var 1) (.cons (.var 4) (.cons (.idx (.lst false (.cons (.cst (.int 4)) (.cons (.cst (.int 12)) (.cons (.cst (.int 40)) .nil)))) (.call 6 (.cons (.var 0) (.cons (.var 1) (.cons (.cst (.int 3)) .nil))))) .nil)))))) (.seq (.asg (.tnm 6) (.call 15 (.cons (.var 0) (.cons (.var 1) (.cons (.var 4) (.cons (.var 5) .nil)))))) (.seq (.iff (.cmp .Eq (.call 6 (.cons (.var 0) (.cons (.var 1) (.cons (.cst (.int 4)) .nil)))) (.cst (.int 0))) (.seq (.asg (.ttup (.cons (.tnm 4) (.cons (.tnm 5) (.cons (.tnm 6) (.cons (.tnm 8) .nil))))) (.call 16 (.cons (.var 0) (.cons (.var 1) .nil)))) .nil) .nil) (.seq (.iff (.or (.cons (.nt (.call 13 (.cons (.var 4) (.cons (.var 5) (.cons (.var 6) .nil))))) (.cons (.cmp .IsNot (.call 3 (.cons (.var 4) (.cons (.var 5) (.cons (.var 6) .nil)))) (.cst (.bool true))) .nil))) (.seq (.ret (.cst (.bool false))) .nil) .nil) (.seq (.asg (.tnm 3) (.blt .sum false (.cons (.lc false [("_law_job", 9)] (.tnm 9) (.iseq (.var 6)) .nil (.idx (.var 9) (.cst (.int 3)))) .nil))) (.seq (.iff (.cmp .NotEq (.call 4 (.cons (.var 6) .nil)) (.var 3)) (.seq (.ret (.cst (.bool false))) .nil) .nil) (.seq (.fr (.tnm 7) (.irng1 (.cst (.int 2))) (.seq (.iff (.cmp .Lt (.call 5 (.cons (.var 4) (.cons (.var 5) (.cons (.call 12 (.cons (.var 0) (.cons (.var 1) (.cons (.var 4) (.cons (.var 5) .nil))))) .nil)))) (.var 3)) (.seq (.ret (.cst (.bool false))) .nil) .nil) .nil)) .nil)))))))))) (.seq (.ret (.cst (.bool true))) .nil)))
theorem z17 : FnScope N17 P17 (defScope st17) := ⟨rfl, rfl, rfl, by decide +kernel, rfl, by decide +kernel, by decide +kernel⟩
theorem k17 : (cks Gm N17 17 c17).b ⟨defScope st17, none⟩ (defBody st17) = true := by decide +kernel
end K07

set_option Elab.async false
set_option linter.all false
set_option maxRecDepth 100000
set_option maxHeartbeats 4000000
/-! K07b: the law's own look at an exchange. -/
namespace K07
open PySem PySem.Spec PyProof.Rows L2 MP NM DK LF LG LH LI BD EX EY EZ ST DU
local macro_rules
  | `(tactic| contradiction) => `(tactic| first | with_reducible refine d_in ?_ | with_reducible refine s_nil ?_ | with_reducible refine s_seq ?_ | with_reducible refine s_asg ?_ | with_reducible refine s_par ?_ | with_reducible refine s_expr ?_ | with_reducible refine s_ret ?_ | with_reducible refine s_retN ?_ | with_reducible refine s_iff ?_ | with_reducible refine s_fr ?_ | with_reducible refine s_cont ?_ | with_reducible refine s_brk ?_ | with_reducible refine s_pass ?_ | with_reducible refine s_augS ?_ | with_reducible refine e_int ?_ | with_reducible refine e_str ?_ | with_reducible refine e_bool ?_ | with_reducible refine e_none ?_ | with_reducible refine e_bin ?_ | with_reducible refine e_neg ?_ | with_reducible refine e_nt ?_ | with_reducible refine e_cmp ?_ | with_reducible refine e_chain ?_ | with_reducible refine e_an ?_ | with_reducible refine e_or ?_ | with_reducible refine an_1 ?_ | with_reducible refine an_2 ?_ | with_reducible refine or_1 ?_ | with_reducible refine or_2 ?_ | with_reducible refine e_ife ?_ | with_reducible refine e_call ?_ | with_reducible refine e_blt ?_ | with_reducible refine e_mth ?_ | with_reducible refine e_idx ?_ | with_reducible refine e_slc ?_ | with_reducible refine e_rev ?_ | with_reducible refine e_tup ?_ | with_reducible refine e_lst ?_ | with_reducible refine e_dnew ?_ | with_reducible refine e_dct ?_ | with_reducible refine e_isi ?_ | with_reducible refine e_lrg ?_ | with_reducible refine e_lzip ?_ | with_reducible refine e_stp ?_ | with_reducible refine e_sset ?_ | with_reducible refine es_n ?_ | with_reducible refine es_c ?_ | with_reducible refine o_nil ?_ | with_reducible refine o_var ?_ | with_reducible refine o_cst ?_ | with_reducible refine o_bin ?_ | with_reducible refine o_neg ?_ | with_reducible refine o_blt ?_ | with_reducible refine o_call ?_ | with_reducible refine ik ?_ | with_reducible refine ng ?_ | with_reducible refine tq_bl ?_ | with_reducible refine tq_int ?_ | with_reducible refine tq_non ?_ | with_reducible refine tq_lst ?_ | with_reducible refine tq_tup ?_ | with_reducible refine t_var ?_ | with_reducible refine t_call ?_ | with_reducible refine t_blt ?_ | with_reducible refine t_mth ?_ | with_reducible refine t_idx ?_ | with_reducible refine t_isi ?_ | with_reducible refine t_cst ?_ | with_reducible refine t_nt ?_ | with_reducible refine t_cmp ?_ | with_reducible refine t_chain ?_ | with_reducible refine t_an ?_ | with_reducible refine t_or ?_ | with_reducible refine ant_1 ?_ | with_reducible refine ant_2 ?_ | with_reducible refine ort_1 ?_ | with_reducible refine ort_2 ?_ | with_reducible refine tr_bl ?_ | with_reducible refine tr_int ?_ | with_reducible refine tr_lst ?_ | with_reducible refine tr_non ?_ | with_reducible refine c_nil ?_ | with_reducible refine c_one ?_ | with_reducible refine g_sub ?_ | with_reducible refine gs_n ?_ | with_reducible refine gs_c ?_ | with_reducible refine i_seq ?_ | with_reducible refine i_rng1 ?_ | with_reducible refine i_rng2 ?_ | with_reducible refine i_rng3 ?_ | with_reducible refine i_zip ?_ | with_reducible refine i_enm ?_ | with_reducible refine b_add ?_ | with_reducible refine b_sub ?_ | with_reducible refine c_lt ?_ | with_reducible refine c_le ?_ | with_reducible refine c_gt ?_ | with_reducible refine c_ge ?_ | with_reducible refine mk_f ?_ | with_reducible refine ref_and ?_ | with_reducible refine u_set ?_ | with_reducible refine eq_i ?_ | with_reducible refine ne_i ?_ | with_reducible refine eq_b ?_ | with_reducible refine ne_b ?_ | with_reducible refine is_b ?_ | with_reducible refine isn_b ?_ | with_reducible refine is_n ?_ | with_reducible refine isn_n ?_ | with_reducible refine e_v0 ?_ | with_reducible refine g_v0 ?_ | with_reducible refine s_u0 ?_ | with_reducible refine e_v1 ?_ | with_reducible refine g_v1 ?_ | with_reducible refine s_u1 ?_ | with_reducible refine e_v2 ?_ | with_reducible refine g_v2 ?_ | with_reducible refine s_u2 ?_ | with_reducible refine e_v3 ?_ | with_reducible refine g_v3 ?_ | with_reducible refine s_u3 ?_ | with_reducible refine e_v4 ?_ | with_reducible refine g_v4 ?_ | with_reducible refine s_u4 ?_ | with_reducible refine e_v5 ?_ | with_reducible refine g_v5 ?_ | with_reducible refine s_u5 ?_ | with_reducible refine e_v6 ?_ | with_reducible refine g_v6 ?_ | with_reducible refine s_u6 ?_ | with_reducible refine e_v7 ?_ | with_reducible refine g_v7 ?_ | with_reducible refine s_u7 ?_ | with_reducible refine e_v8 ?_ | with_reducible refine g_v8 ?_ | with_reducible refine s_u8 ?_ | with_reducible refine e_v9 ?_ | with_reducible refine g_v9 ?_ | with_reducible refine s_u9 ?_ | with_reducible refine e_v10 ?_ | with_reducible refine g_v10 ?_ | with_reducible refine s_u10 ?_ | with_reducible refine e_v11 ?_ | with_reducible refine g_v11 ?_ | with_reducible refine s_u11 ?_ | with_reducible refine e_v12 ?_ | with_reducible refine g_v12 ?_ | with_reducible refine s_u12 ?_ | with_reducible refine e_v13 ?_ | with_reducible refine g_v13 ?_ | with_reducible refine s_u13 ?_ | with_reducible refine e_v14 ?_ | with_reducible refine g_v14 ?_ | with_reducible refine s_u14 ?_ | with_reducible refine e_v15 ?_ | with_reducible refine g_v15 ?_ | with_reducible refine s_u15 ?_ | with_reducible refine e_v16 ?_ | with_reducible refine g_v16 ?_ | with_reducible refine s_u16 ?_ | with_reducible refine e_v17 ?_ | with_reducible refine g_v17 ?_ | with_reducible refine s_u17 ?_ | with_reducible refine e_v18 ?_ | with_reducible refine g_v18 ?_ | with_reducible refine s_u18 ?_ | with_reducible refine e_v19 ?_ | with_reducible refine g_v19 ?_ | with_reducible refine s_u19 ?_ | ((with_reducible refine e_lc' (ρ' := ?rr) ?hw ?_); (case hw => (dsimp only [wipeW, List.map, List.set]; exact rfl))) | ((with_reducible refine g_tup ?hl ?_); (case hl => exact rfl)) | with_reducible refine b_mod (by first | decide | omega) ?_ | ((with_reducible refine b_pow (pow_ok (by decide) (by decide) (by decide)) ?_); simp only [Int.reduceToNat, Int.reducePow]) | with_reducible refine le_and (by simp only [List.length_cons, List.length_nil]; decide) ?_ | with_reducible refine l_intB ?_ | with_reducible refine l_intI ?_ | with_reducible refine sl_f ?_ | (refine l_len (by exact rfl) (q := ?_); skip) | (refine l_list (by exact rfl) ?_; skip) | (refine ix_t (by exact rfl) ?_; skip))

section
variable {Φ : Nat → MP.Spec} {ρ : MP.Env} {S : Sto} {Q : WK} {X : XC} {a : CE}
theorem e_lck {p : Addr} {o : Ob} {ks : List W} (h0 : S p = some o) (hk : obKeys o = some ks) (h : ∀ od u, (wp Φ a).e ρ (sup S p (.lk o od u)) (fun w S2 => S2 p = some (.lk o od u) ∧ Q w (sup S2 p o)) XN) : (wp Φ (.lck a)).e ρ S Q X := ⟨p, o, ks, h0, hk, h⟩
theorem i_keys {Q : (Sto → Prop) → List W → Sto → Prop} (h : (wp Φ a).e ρ S (fun x S1 => ∃ p o od u ks, x = .ref p ∧ S1 p = some (.lk o od u) ∧ obKeys o = some ks ∧ Q (fun S => S p = some (.lk o od u)) ks S1) X) : (wp Φ (.ikeys a)).i ρ S Q X := h
theorem ix_lk {p : Addr} {kvs : List (List Key × W)} {ws : List W} {k : List Key} {w : W} {od u} (h : S p = some (.lk (.dt kvs) od u)) (hk : keysW ws = some k) (hw : getK kvs k = some w) (q : Q w S) : idxW (.ref p) (.tup ws) S Q := .inr ⟨w, by
  show ((S p).bind _) = _
  rw [h]
  show ((keysW ws).map _) = _
  rw [hk]
  show some (getK kvs k) = _
  rw [hw], q⟩
variable {src : Sto → Prop} {g : W → MP.Env → Sto → (MP.Env → Sto → Prop) → Prop} {b : WS} {x : W} {xs : List W} {nx bk ct : MP.Env → Sto → Prop} {rt : WK} {xc : XC}
theorem for_c (hs : src S) (h : g x ρ S fun ρ1 S1 => b ρ1 S1 ⟨fun ρ2 S2 => wpFor src g b xs ρ2 S2 ⟨nx, rt, bk, ct, xc⟩, rt, nx, fun ρ2 S2 => wpFor src g b xs ρ2 S2 ⟨nx, rt, bk, ct, xc⟩, xc⟩) : wpFor src g b (x :: xs) ρ S ⟨nx, rt, bk, ct, xc⟩ := ⟨hs, h⟩
theorem for_n (hs : src S) (h : nx ρ S) : wpFor src g b [] ρ S ⟨nx, rt, bk, ct, xc⟩ := ⟨hs, h⟩
end
theorem side_ok {Φ : Nat → MP.Spec} {S : Sto} {Q : WK} {X : XC} {w0 w1 w2 w3 w4 w5 w7 w8 w9 w10 w11 : Option W} {p : Addr} {xs : List En} {H : K2 → Int} (hp : S p = some (.dt (kF xs H))) (hpos : ∀ x ∈ xs, 0 ≤ H (key x)) (hlen : xs.length ≤ 40) (q : Q (.lst []) S) :
    (wp Φ (.lck (.lc false [("_law_key", 12)] (.tnm 12) (.ikeys (.var 6)) (.cons (.cmp .Lt (.idx (.var 6) (.var 12)) (.cst (.int 0))) .nil) (.var 12)))).e [w0, w1, w2, w3, w4, w5, some (.ref p), w7, w8, w9, w10, w11, none] S Q X := by
  refine e_lck hp (ks := (kF xs H).map fun kv => .tup (kv.1.map wKey)) rfl fun od u => ?_
  repeat' contradiction
  refine i_keys ?_
  repeat' contradiction
  refine ⟨p, .dt (kF xs H), od, u, (kF xs H).map fun kv => .tup (kv.1.map wKey), rfl, sup_same, rfl, ?_⟩
  rw [List.map_map]
  refine lc_fm (fun x : En => false) (fun x => .non) (by exact sup_same) (le_line (by omega)) (fun x hx K K2 k1 k2 => ?_) ?_
  · repeat' contradiction
    show idxW (.ref p) (.tup [.str x.1, .str x.2.1]) _ _
    refine ix_lk sup_same (k := EY.k2 (key x)) rfl (kF_get (List.mem_map.mpr ⟨x, hx, rfl⟩)) ?_
    repeat' contradiction
    refine iteF' (decide_eq_false (by have := hpos x hx; omega)) ?_
    exact k2 rfl
  rw [show (xs.filter fun x : En => false) = [] from List.filter_eq_nil_iff.mpr fun _ _ h => nomatch h]
  refine mk_f ?_
  refine ⟨sup_same, ?_⟩
  rw [sup_sup, sup_eq hp]
  exact q
def kJ (j : J4) : List Key := [.inr j.1, .inr j.2.1, .inr j.2.2.1]
def spIsL : MP.Spec := fun ws S Q _ => ∃ (town : List Nb) (os us : List En) (js : List J4), ws = [.lst (town.map eN), .tup [.lst (os.map eO), .lst (us.map eO)], .lst (js.map eJ4)] ∧ TownOk town ∧ DayOk town (os ++ us) ∧ town.length ≤ 12 ∧ os.length + us.length ≤ 40 ∧ js.length < 256 ∧ Ex town os us js ∧
  Q (.bl true) S
theorem ok_isL {Φ : Nat → MP.Spec} {ws : List W} {S : Sto} {Q : WK} {X X0 : XC} (h : spIsL ws S Q X) : wps Φ c13 (startW N13 ws) S (dEnds Q X0) := by
  obtain ⟨town, os, us, js, rfl, hT, hD, hl, hl2, hj, E, q⟩ := h
  unfold c13
  show wps Φ _ [some (.lst (town.map eN)), some (.tup [.lst (os.map eO), .lst (us.map eO)]), some (.lst (js.map eJ4)), none, none, none, none, none, none, none, none, none, none] S (dEnds Q X0)
  obtain ⟨ndo, ndu⟩ := nd_app hD.nd
  repeat' contradiction
  refine ⟨_, rfl, ?_⟩
  refine lc_c0 rfl ?_
  repeat' contradiction
  refine ⟨_, rfl, ?_⟩
  refine lc_mp (fun x : En => W.tup [.tup [.str x.1, .str x.2.1], .int x.2.2]) rfl (le_line (by omega)) (fun x _ K hK => ?_) ?_
  · repeat' contradiction
    refine sl_t ?_
    show (wp Φ _).es _ _ _ _
    repeat' contradiction
    exact hK
  repeat' contradiction
  refine l_dictT rfl (prT_side os) fun p1 h1 => ?_
  rw [kF_new ndo]
  refine ⟨lt_line (by show (0 : Nat) ≤ 10000; decide), lc_c0 rfl ?_⟩
  repeat' contradiction
  refine ⟨_, rfl, ?_⟩
  refine lc_mp (fun x : En => W.tup [.tup [.str x.1, .str x.2.1], .int x.2.2]) rfl (le_line (by omega)) (fun x _ K hK => ?_) ?_
  · repeat' contradiction
    refine sl_t ?_
    show (wp Φ _).es _ _ _ _
    repeat' contradiction
    exact hK
  repeat' contradiction
  refine l_dictT rfl (prT_side us) fun p2 h2 => ?_
  rw [kF_new ndu]
  have n21 : p2 ≠ p1 := ne_new sup_same h2
  have h2' : S p2 = none := (sup_ne n21).symm.trans h2
  have a1 : (sup (sup S p1 (.dt (kF os (hrs os)))) p2 (.dt (kF us (hrs us)))) p1 = some (.dt (kF os (hrs os))) := (sup_ne n21.symm).trans sup_same
  have a2 : (sup (sup S p1 (.dt (kF os (hrs os)))) p2 (.dt (kF us (hrs us)))) p2 = some (.dt (kF us (hrs us))) := sup_same
  have hF : Fewer S (sup (sup S p1 (.dt (kF os (hrs os)))) p2 (.dt (kF us (hrs us)))) := fewer_more (fewer_more fewer_rfl h1) h2'
  generalize sup (sup S p1 (.dt (kF os (hrs os)))) p2 (.dt (kF us (hrs us))) = S2 at a1 a2 hF ⊢
  refine ⟨lt_line (by show (1 : Nat) ≤ 10000; decide), lc_n rfl ?_⟩
  repeat' contradiction
  refine ⟨_, rfl, ?_⟩
  refine lc_mp (fun x : Nb => W.tup [.str x.1, .int x.2.1]) rfl (le_line (by omega)) (fun x _ K hK => ?_) ?_
  · repeat' contradiction
    exact hK
  repeat' contradiction
  refine l_dictK rfl (prK_town town) fun p3 h3 => ?_
  rw [kP_new hT.nd]
  have n31 : p3 ≠ p1 := ne_new a1 h3
  have n32 : p3 ≠ p2 := ne_new a2 h3
  have h3' : S p3 = none := by
    cases z : S p3 with
    | none => rfl
    | some o => rw [hF p3 o z] at h3; cases h3
  have hF3 : Fewer S (sup S2 p3 (.dk (kP town (prs town)))) := fewer_more hF h3'
  have b1 : (sup S2 p3 (.dk (kP town (prs town)))) p1 = some (.dt (kF os (hrs os))) := (sup_ne n31.symm).trans a1
  have b2 : (sup S2 p3 (.dk (kP town (prs town)))) p2 = some (.dt (kF us (hrs us))) := (sup_ne n32.symm).trans a2
  have b3 : (sup S2 p3 (.dk (kP town (prs town)))) p3 = some (.dk (kP town (prs town))) := sup_same
  generalize sup S2 p3 (.dk (kP town (prs town))) = S3 at b1 b2 b3 hF3 ⊢
  repeat' contradiction
  intro p4 h4
  rw [if_pos rfl]
  have n41 : p4 ≠ p1 := ne_new b1 h4
  have n42 : p4 ≠ p2 := ne_new b2 h4
  have n43 : p4 ≠ p3 := ne_new b3 h4
  have h4' : S p4 = none := by
    cases z : S p4 with
    | none => rfl
    | some o => rw [hF3 p4 o z] at h4; cases h4
  repeat' contradiction
  refine ⟨_, rfl, ?_⟩
  refine for_map (fun i ρ S' => ∃ (F G : K2 → Int) (P : Str → Int) (seen : List (List Key × W)) (r7 r8 r9 r10 : Option W), ρ = [some (.lst (town.map eN)), some (.tup [.lst (os.map eO), .lst (us.map eO)]), some (.lst (js.map eJ4)), some (.lst [.ref p1, .ref p2]), some (.ref p3), some (.ref p4), none, r7, r8, r9, r10, none, none] ∧
      S' p1 = some (.dt (kF os F)) ∧ S' p2 = some (.dt (kF us G)) ∧ S' p3 = some (.dk (kP town P)) ∧ S' p4 = some (.dt seen) ∧ Fewer S S' ∧ seen.map (·.1) = (js.take i).map kJ ∧ (∀ k, F k = hrs os k - EZ.spent gv (js.take i) k) ∧ (∀ k, G k = hrs us k - EZ.spent tk (js.take i) k) ∧ (∀ n, P n = prs town n + come (js.take i) n))
    ⟨hrs os, hrs us, prs town, [], _, _, _, _, rfl, (sup_ne n41.symm).trans b1, (sup_ne n42.symm).trans b2, (sup_ne n43.symm).trans b3, sup_same, fewer_more hF3 h4', rfl, fun k => by simp [EZ.spent], fun k => by simp [EZ.spent], fun k => by simp [come]⟩ (fun _ _ _ _ => rfl) (fun i j ρ S' hx h K hK => ?_) (fun ρ S' h => ?_)
  · obtain ⟨F, G, P, seen, r7, r8, r9, r10, rfl, b1, b2, b3, b4, f, e0, e1, e2, e3⟩ := h
    have hjm := List.mem_of_getElem? hx
    obtain ⟨m1, m2, m3⟩ := E.job j hjm
    have mg : j.1 ∈ town.map (·.1) := by
      obtain ⟨x, hx', e⟩ := List.mem_map.mp m2
      have := hD.nm x (List.mem_append.mpr (.inl hx'))
      have e : x.1 = j.1 := congrArg (fun k : K2 => k.1) e
      rw [← e]; exact this
    have mt : j.2.1 ∈ town.map (·.1) := by
      obtain ⟨x, hx', e⟩ := List.mem_map.mp m3
      have := hD.nm x (List.mem_append.mpr (.inr hx'))
      have e : x.1 = j.2.1 := congrArg (fun k : K2 => k.1) e
      rw [← e]; exact this
    have new : kJ j ∉ seen.map (·.1) := by
      rw [e0]
      intro hm
      have nd : (js.map kJ).Nodup := E.nd
      have e : js.take (i + 1) = js.take i ++ [j] := by rw [List.take_add_one, hx]; rfl
      have nd2 : ((js.take (i + 1)).map kJ).Nodup := nd.sublist ((List.take_sublist _ _).map _)
      rw [e, List.map_append, List.nodup_append] at nd2
      exact nd2.2.2 _ hm _ (List.mem_singleton.mpr rfl) rfl
    have sl : seen.length ≤ i := by
      have := congrArg List.length e0
      rw [List.length_map, List.length_map, List.length_take] at this
      omega
    have hi : i < js.length := (List.getElem?_eq_some_iff.mp hx).1
    repeat' contradiction
    refine ix_l rfl ?_
    refine notin_dt b1 (k := EY.k2 (gv j)) rfl ?_
    rw [kF_get m2]
    refine iteF' rfl ?_
    repeat' contradiction
    refine ix_l rfl ?_
    refine notin_dt b2 (k := EY.k2 (tk j)) rfl ?_
    rw [kF_get m3]
    refine iteF' rfl ?_
    repeat' contradiction
    refine iteF' (decide_eq_false (by omega)) ?_
    repeat' contradiction
    refine in_dt b4 (k := kJ j) rfl ?_
    rw [get_none.mpr new]
    refine iteF' rfl ?_
    repeat' contradiction
    refine st_dt b4 (k := kJ j) rfl (lt_line (by omega)) ?_
    rw [set_new new]
    repeat' contradiction
    have b1' : sup S' p4 (.dt (seen ++ [(kJ j, .bl true)])) p1 = some (.dt (kF os F)) := (sup_ne n41.symm).trans b1
    have b2' : sup S' p4 (.dt (seen ++ [(kJ j, .bl true)])) p2 = some (.dt (kF us G)) := (sup_ne n42.symm).trans b2
    have b3' : sup S' p4 (.dt (seen ++ [(kJ j, .bl true)])) p3 = some (.dk (kP town P)) := (sup_ne n43.symm).trans b3
    have b4' : sup S' p4 (.dt (seen ++ [(kJ j, .bl true)])) p4 = some (.dt (seen ++ [(kJ j, .bl true)])) := sup_same
    have f' : Fewer S (sup S' p4 (.dt (seen ++ [(kJ j, .bl true)]))) := fewer_more f h4'
    generalize sup S' p4 (.dt (seen ++ [(kJ j, .bl true)])) = S5 at b1' b2' b3' b4' f' ⊢
    refine ix_l rfl ?_
    repeat' contradiction
    refine ix_dt b1' (k := EY.k2 (gv j)) rfl (kF_get m2) ?_
    repeat' contradiction
    refine ix_l rfl ?_
    repeat' contradiction
    refine st_dt b1' (k := EY.k2 (gv j)) rfl (lt_line (by rw [List.length_map]; omega)) ?_
    rw [kF_set m2]
    repeat' contradiction
    refine ix_l rfl ?_
    repeat' contradiction
    refine ix_dt ((sup_ne n21).trans b2') (k := EY.k2 (tk j)) rfl (kF_get m3) ?_
    repeat' contradiction
    refine ix_l rfl ?_
    repeat' contradiction
    refine st_dt ((sup_ne n21).trans b2') (k := EY.k2 (tk j)) rfl (lt_line (by rw [List.length_map]; omega)) ?_
    rw [kF_set m3]
    repeat' contradiction
    have b3'' : sup (sup S5 p1 (.dt (kF os fun k => if k = gv j then F (gv j) - j.2.2.2 else F k))) p2 (.dt (kF us fun k => if k = tk j then G (tk j) - j.2.2.2 else G k)) p3 = some (.dk (kP town P)) := (sup_ne n32).trans ((sup_ne n31).trans b3')
    refine ix_d b3'' rfl (kP_get mg) ?_
    repeat' contradiction
    refine st_d b3'' rfl (lt_line (by rw [List.length_map]; omega)) ?_
    rw [kP_set mg]
    repeat' contradiction
    refine ix_d sup_same rfl (kP_get mt) ?_
    repeat' contradiction
    refine st_d sup_same rfl (lt_line (by rw [List.length_map]; omega)) ?_
    rw [kP_set mt, sup_sup]
    refine hK _ _ ⟨_, _, _, _, _, _, _, _, rfl, (sup_ne n31.symm).trans ((sup_ne n21.symm).trans sup_same), (sup_ne n32.symm).trans sup_same, sup_same, (sup_ne n43).trans ((sup_ne n42).trans ((sup_ne n41).trans b4')), fewer_more (fewer_more (fewer_more f' h1) h2') h3', ?_, fun k => ?_, fun k => ?_, fun n => ?_⟩
    · rw [List.map_append, e0, List.take_add_one, hx, List.map_append]; rfl
    · rw [spent_take hx]
      show (if k = gv j then F (gv j) - j.2.2.2 else F k) = _
      by_cases c : gv j = k
      · subst c; rw [if_pos rfl, if_pos rfl, e1]; omega
      · rw [if_neg (fun z => c z.symm), if_neg c, e1]; omega
    · rw [spent_take hx]
      show (if k = tk j then G (tk j) - j.2.2.2 else G k) = _
      by_cases c : tk j = k
      · subst c; rw [if_pos rfl, if_pos rfl, e2]; omega
      · rw [if_neg (fun z => c z.symm), if_neg c, e2]; omega
    · rw [come_take hx]
      show (if n = j.2.1 then (if j.2.1 = j.1 then P j.1 + j.2.2.2 else P j.2.1) - j.2.2.2 else (if n = j.1 then P j.1 + j.2.2.2 else P n)) = _
      have d1 := e3 n
      by_cases c : n = j.2.1
      · subst c
        rw [if_pos rfl, if_pos rfl]
        by_cases c2 : j.2.1 = j.1
        · rw [if_pos c2, if_pos c2.symm, ← c2, d1]; omega
        · rw [if_neg c2, if_neg (fun z => c2 z.symm), d1]; omega
      · rw [if_neg c, if_neg (show ¬ j.2.1 = n from fun z => c z.symm)]
        by_cases c2 : n = j.1
        · rw [if_pos c2, if_pos c2.symm, ← c2, d1]; omega
        · rw [if_neg c2, if_neg (show ¬ j.1 = n from fun z => c2 z.symm), d1]; omega
  · obtain ⟨F, G, P, seen, r7, r8, r9, r10, rfl, b1, b2, b3, b4, f, e0, e1, e2, e3⟩ := h
    rw [List.take_length] at e1 e2 e3
    repeat' contradiction
    refine ⟨_, rfl, ?_⟩
    refine for_c rfl ?_
    repeat' contradiction
    refine side_ok b1 (fun x hx => by have := E.off x hx; rw [e1, hrs_of ndo hx]; omega) (by omega) ?_
    repeat' contradiction
    refine ne_p (n := 1) (m := 1) (.lst 0 _ fun w h => nomatch h) (.lst 0 _ fun w h => nomatch h) fun b hb => ?_
    refine iteF' (b_f hb fun z => z rfl) ?_
    refine s_nil ?_
    refine s_nil ?_
    show wpFor _ _ _ [W.ref p2] _ _ _
    refine for_c rfl ?_
    repeat' contradiction
    refine side_ok b2 (fun x hx => by have := E.wsh x hx; rw [e2, hrs_of ndu hx]; omega) (by omega) ?_
    repeat' contradiction
    refine ne_p (n := 1) (m := 1) (.lst 0 _ fun w h => nomatch h) (.lst 0 _ fun w h => nomatch h) fun b hb => ?_
    refine iteF' (b_f hb fun z => z rfl) ?_
    refine s_nil ?_
    refine s_nil ?_
    show wpFor _ _ _ [] _ _ _
    refine for_n rfl ?_
    repeat' contradiction
    refine ⟨_, rfl, ?_⟩
    refine lc_fm (fun x : Nb => false) (fun x => eN x) rfl (le_line (by omega)) (fun x hx K K2 k1 k2 => ?_) ?_
    · obtain ⟨p1', p2'⟩ := E.pur x hx
      have e3' : P x.1 = x.2.1 + come js x.1 := by rw [e3, prs_of hT.nd hx]
      repeat' contradiction
      refine ix_d b3 rfl (kP_get (List.mem_map.mpr ⟨x, hx, rfl⟩)) ?_
      repeat' contradiction
      refine iteT' (decide_eq_true (by omega)) ?_
      repeat' contradiction
      refine iteF' (by show (!decide _) = false; rw [decide_eq_true (by omega)]; rfl) ?_
      exact k2 rfl
    rw [show (town.filter fun x : Nb => false) = [] from List.filter_eq_nil_iff.mpr fun _ _ h => nomatch h]
    repeat' contradiction
    refine eq_p (n := 1) (m := 1) (.lst 0 _ fun w h => nomatch h) (.lst 0 _ fun w h => nomatch h) fun b hb => ?_
    rw [hb.mpr rfl]
    exact d_ret f q
end K07

set_option Elab.async false
set_option linter.all false
set_option maxRecDepth 100000
set_option maxHeartbeats 4000000
/-! K07c: pairs of offers and wishes. -/
namespace K07
open PySem PySem.Spec PyProof.Rows L2 MP NM DK LF LG LH LI BD EX EY EZ ST DU
local macro_rules
  | `(tactic| contradiction) => `(tactic| first | with_reducible refine d_in ?_ | with_reducible refine s_nil ?_ | with_reducible refine s_seq ?_ | with_reducible refine s_asg ?_ | with_reducible refine s_par ?_ | with_reducible refine s_expr ?_ | with_reducible refine s_ret ?_ | with_reducible refine s_retN ?_ | with_reducible refine s_iff ?_ | with_reducible refine s_fr ?_ | with_reducible refine s_cont ?_ | with_reducible refine s_brk ?_ | with_reducible refine s_pass ?_ | with_reducible refine s_augS ?_ | with_reducible refine e_int ?_ | with_reducible refine e_str ?_ | with_reducible refine e_bool ?_ | with_reducible refine e_none ?_ | with_reducible refine e_bin ?_ | with_reducible refine e_neg ?_ | with_reducible refine e_nt ?_ | with_reducible refine e_cmp ?_ | with_reducible refine e_chain ?_ | with_reducible refine e_an ?_ | with_reducible refine e_or ?_ | with_reducible refine an_1 ?_ | with_reducible refine an_2 ?_ | with_reducible refine or_1 ?_ | with_reducible refine or_2 ?_ | with_reducible refine e_ife ?_ | with_reducible refine e_call ?_ | with_reducible refine e_blt ?_ | with_reducible refine e_mth ?_ | with_reducible refine e_idx ?_ | with_reducible refine e_slc ?_ | with_reducible refine e_rev ?_ | with_reducible refine e_tup ?_ | with_reducible refine e_lst ?_ | with_reducible refine e_dnew ?_ | with_reducible refine e_dct ?_ | with_reducible refine e_isi ?_ | with_reducible refine e_lrg ?_ | with_reducible refine e_lzip ?_ | with_reducible refine e_stp ?_ | with_reducible refine e_sset ?_ | with_reducible refine es_n ?_ | with_reducible refine es_c ?_ | with_reducible refine o_nil ?_ | with_reducible refine o_var ?_ | with_reducible refine o_cst ?_ | with_reducible refine o_bin ?_ | with_reducible refine o_neg ?_ | with_reducible refine o_blt ?_ | with_reducible refine o_call ?_ | with_reducible refine ik ?_ | with_reducible refine ng ?_ | with_reducible refine tq_bl ?_ | with_reducible refine tq_int ?_ | with_reducible refine tq_non ?_ | with_reducible refine tq_lst ?_ | with_reducible refine tq_tup ?_ | with_reducible refine t_var ?_ | with_reducible refine t_call ?_ | with_reducible refine t_blt ?_ | with_reducible refine t_mth ?_ | with_reducible refine t_idx ?_ | with_reducible refine t_isi ?_ | with_reducible refine t_cst ?_ | with_reducible refine t_nt ?_ | with_reducible refine t_cmp ?_ | with_reducible refine t_chain ?_ | with_reducible refine t_an ?_ | with_reducible refine t_or ?_ | with_reducible refine ant_1 ?_ | with_reducible refine ant_2 ?_ | with_reducible refine ort_1 ?_ | with_reducible refine ort_2 ?_ | with_reducible refine tr_bl ?_ | with_reducible refine tr_int ?_ | with_reducible refine tr_lst ?_ | with_reducible refine tr_non ?_ | with_reducible refine c_nil ?_ | with_reducible refine c_one ?_ | with_reducible refine g_sub ?_ | with_reducible refine gs_n ?_ | with_reducible refine gs_c ?_ | with_reducible refine i_seq ?_ | with_reducible refine i_rng1 ?_ | with_reducible refine i_rng2 ?_ | with_reducible refine i_rng3 ?_ | with_reducible refine i_zip ?_ | with_reducible refine i_enm ?_ | with_reducible refine b_add ?_ | with_reducible refine b_sub ?_ | with_reducible refine c_lt ?_ | with_reducible refine c_le ?_ | with_reducible refine c_gt ?_ | with_reducible refine c_ge ?_ | with_reducible refine mk_f ?_ | with_reducible refine ref_and ?_ | with_reducible refine u_set ?_ | with_reducible refine eq_i ?_ | with_reducible refine ne_i ?_ | with_reducible refine eq_b ?_ | with_reducible refine ne_b ?_ | with_reducible refine is_b ?_ | with_reducible refine isn_b ?_ | with_reducible refine is_n ?_ | with_reducible refine isn_n ?_ | with_reducible refine e_v0 ?_ | with_reducible refine g_v0 ?_ | with_reducible refine s_u0 ?_ | with_reducible refine e_v1 ?_ | with_reducible refine g_v1 ?_ | with_reducible refine s_u1 ?_ | with_reducible refine e_v2 ?_ | with_reducible refine g_v2 ?_ | with_reducible refine s_u2 ?_ | with_reducible refine e_v3 ?_ | with_reducible refine g_v3 ?_ | with_reducible refine s_u3 ?_ | with_reducible refine e_v4 ?_ | with_reducible refine g_v4 ?_ | with_reducible refine s_u4 ?_ | with_reducible refine e_v5 ?_ | with_reducible refine g_v5 ?_ | with_reducible refine s_u5 ?_ | with_reducible refine e_v6 ?_ | with_reducible refine g_v6 ?_ | with_reducible refine s_u6 ?_ | with_reducible refine e_v7 ?_ | with_reducible refine g_v7 ?_ | with_reducible refine s_u7 ?_ | with_reducible refine e_v8 ?_ | with_reducible refine g_v8 ?_ | with_reducible refine s_u8 ?_ | with_reducible refine e_v9 ?_ | with_reducible refine g_v9 ?_ | with_reducible refine s_u9 ?_ | with_reducible refine e_v10 ?_ | with_reducible refine g_v10 ?_ | with_reducible refine s_u10 ?_ | with_reducible refine e_v11 ?_ | with_reducible refine g_v11 ?_ | with_reducible refine s_u11 ?_ | with_reducible refine e_v12 ?_ | with_reducible refine g_v12 ?_ | with_reducible refine s_u12 ?_ | with_reducible refine e_v13 ?_ | with_reducible refine g_v13 ?_ | with_reducible refine s_u13 ?_ | with_reducible refine e_v14 ?_ | with_reducible refine g_v14 ?_ | with_reducible refine s_u14 ?_ | with_reducible refine e_v15 ?_ | with_reducible refine g_v15 ?_ | with_reducible refine s_u15 ?_ | with_reducible refine e_v16 ?_ | with_reducible refine g_v16 ?_ | with_reducible refine s_u16 ?_ | with_reducible refine e_v17 ?_ | with_reducible refine g_v17 ?_ | with_reducible refine s_u17 ?_ | with_reducible refine e_v18 ?_ | with_reducible refine g_v18 ?_ | with_reducible refine s_u18 ?_ | with_reducible refine e_v19 ?_ | with_reducible refine g_v19 ?_ | with_reducible refine s_u19 ?_ | ((with_reducible refine e_lc' (ρ' := ?rr) ?hw ?_); (case hw => (dsimp only [wipeW, List.map, List.set]; exact rfl))) | ((with_reducible refine g_tup ?hl ?_); (case hl => exact rfl)) | with_reducible refine b_mod (by first | decide | omega) ?_ | ((with_reducible refine b_pow (pow_ok (by decide) (by decide) (by decide)) ?_); simp only [Int.reduceToNat, Int.reducePow]) | with_reducible refine le_and (by simp only [List.length_cons, List.length_nil]; decide) ?_ | with_reducible refine l_intB ?_ | with_reducible refine l_intI ?_ | with_reducible refine sl_f ?_ | (refine l_len (by exact rfl) (q := ?_); skip) | (refine l_list (by exact rfl) ?_; skip) | (refine ix_t (by exact rfl) ?_; skip))

abbrev T3 := Str × Str × Str
abbrev eT3 (p : T3) : W := .tup [.str p.1, .str p.2.1, .str p.2.2]
abbrev own (us : List En) (x : En) : List T3 := (us.filter fun y => decide (y.2.1 = x.2.1)).map fun y => (x.1, y.1, x.2.1)
def pairsF (os us : List En) : List T3 := os.flatMap (own us)
theorem own_len (us : List En) (x : En) : (own us x).length ≤ us.length := by rw [List.length_map]; exact List.length_filter_le _ _
theorem pairs_snoc {os us : List En} {i : Nat} {x : En} (h : os[i]? = some x) : pairsF (os.take (i + 1)) us = pairsF (os.take i) us ++ own us x := by
  unfold pairsF
  rw [List.take_add_one, h, List.flatMap_append]
  simp
theorem pairs_len (us : List En) : ∀ os : List En, (pairsF os us).length ≤ os.length * us.length
  | [] => Nat.zero_le _
  | x :: os => by
    have h1 := pairs_len us os
    have h2 := own_len us x
    unfold pairsF at h1 ⊢
    rw [List.flatMap_cons, List.length_append, List.length_cons, Nat.succ_mul]
    omega
theorem pairs_mem {os us : List En} {p : T3} (h : p ∈ pairsF os us) : ∃ x ∈ os, ∃ y ∈ us, key x = (p.1, p.2.2) ∧ key y = (p.2.1, p.2.2) := by
  obtain ⟨x, hx, h⟩ := List.mem_flatMap.mp h
  obtain ⟨y, hy, rfl⟩ := List.mem_map.mp h
  obtain ⟨hy, e⟩ := List.mem_filter.mp hy
  exact ⟨x, hx, y, hy, rfl, by rw [← of_decide_eq_true e]⟩
theorem inj_nd {α β : Type} {f : α → β} : ∀ {xs : List α}, (xs.map f).Nodup → ∀ {x y : α}, x ∈ xs → y ∈ xs → f x = f y → x = y
  | [], _, _, _, h, _, _ => nomatch h
  | a :: xs, nd, x, y, hx, hy, e => by
    rw [List.map_cons, List.nodup_cons] at nd
    rcases List.mem_cons.mp hx with e1 | h1 <;> rcases List.mem_cons.mp hy with e2 | h2
    · rw [e1, e2]
    · exact absurd (List.mem_map.mpr ⟨y, h2, by rw [← e, e1]⟩) nd.1
    · exact absurd (List.mem_map.mpr ⟨x, h1, by rw [e, e2]⟩) nd.1
    · exact inj_nd nd.2 h1 h2 e
theorem pairs_nd {us : List En} (ndu : (us.map key).Nodup) : ∀ {os : List En}, (os.map key).Nodup → (pairsF os us).Nodup
  | [], _ => List.nodup_nil
  | x :: os, nd => by
    rw [List.map_cons, List.nodup_cons] at nd
    unfold pairsF
    rw [List.flatMap_cons, List.nodup_append]
    refine ⟨?_, pairs_nd ndu nd.2, fun p hp q hq e => ?_⟩
    · have h1 : ((us.filter fun y => decide (y.2.1 = x.2.1)).map key).Nodup := ndu.sublist (List.filter_sublist.map _)
      have h2 : (us.filter fun y => decide (y.2.1 = x.2.1)).Nodup := by
        have := h1
        rw [List.nodup_iff_pairwise_ne, List.pairwise_map] at this
        rw [List.nodup_iff_pairwise_ne]
        exact this.imp fun h e => h (by rw [e])
      refine nodup_map h2 fun y hy z hz e => ?_
      have e1 : y.1 = z.1 := congrArg (fun p : T3 => p.2.1) e
      have f1 := of_decide_eq_true (List.mem_filter.mp hy).2
      have f2 := of_decide_eq_true (List.mem_filter.mp hz).2
      have ek : key y = key z := Prod.ext e1 (f1.trans f2.symm)
      have a := List.mem_filter.mp hy
      have b := List.mem_filter.mp hz
      exact inj_nd ndu a.1 b.1 ek
    · subst e
      obtain ⟨y, hy, rfl⟩ := List.mem_map.mp hp
      obtain ⟨z, hz, _, _, e, _⟩ := pairs_mem hq
      exact nd.1 (List.mem_map.mpr ⟨z, hz, e⟩)
theorem nodup_le {α : Type} [DecidableEq α] : ∀ {l m : List α}, l.Nodup → (∀ x ∈ l, x ∈ m) → l.length ≤ m.length
  | [], _, _, _ => Nat.zero_le _
  | x :: l, m, nd, h => by
    obtain ⟨n1, n2⟩ := List.nodup_cons.mp nd
    have hx := h x List.mem_cons_self
    have z := nodup_le (l := l) (m := m.erase x) n2 fun y hy => (List.mem_erase_of_ne fun e : y = x => n1 (e ▸ hy)).2 (h y (List.mem_cons_of_mem _ hy))
    rw [List.length_erase_of_mem hx] at z
    have := List.length_pos_of_mem hx
    rw [List.length_cons]; omega
theorem fm_len {α β : Type} {f : α → List β} {c : Nat} : ∀ {xs : List α}, (∀ x ∈ xs, (f x).length = c) → (xs.flatMap f).length = xs.length * c
  | [], _ => by simp
  | x :: xs, h => by
    rw [List.flatMap_cons, List.length_append, h x List.mem_cons_self, fm_len fun y hy => h y (List.mem_cons_of_mem _ hy), List.length_cons, Nat.succ_mul]; omega
theorem pairs_few {town : List Nb} {os us : List En} (hD : DayOk town (os ++ us)) (hl : town.length ≤ 12) (hl2 : os.length + us.length ≤ 40) : (pairsF os us).length ≤ 240 := by
  obtain ⟨ndo, ndu⟩ := nd_app hD.nd
  have nd := pairs_nd ndu ndo
  have inT : ∀ x ∈ os ++ us, ∃ n ∈ town, n.1 = x.1 := fun x hx => List.mem_map.mp (hD.nm x hx)
  have h1 := nodup_le nd (m := os.flatMap fun x => town.map fun n => (x.1, n.1, x.2.1)) fun p hp => by
    obtain ⟨x, hx, y, hy, e1, e2⟩ := pairs_mem hp
    obtain ⟨n, hn, e3⟩ := inT y (List.mem_append.mpr (.inr hy))
    have f1 : x.1 = p.1 := congrArg (·.1) e1
    have f2 : x.2.1 = p.2.2 := congrArg (·.2) e1
    have f3 : y.1 = p.2.1 := congrArg (·.1) e2
    exact List.mem_flatMap.mpr ⟨x, hx, List.mem_map.mpr ⟨n, hn, by rw [e3, f1, f2, f3]⟩⟩
  have h2 := nodup_le nd (m := us.flatMap fun y => town.map fun n => (n.1, y.1, y.2.1)) fun p hp => by
    obtain ⟨x, hx, y, hy, e1, e2⟩ := pairs_mem hp
    obtain ⟨n, hn, e3⟩ := inT x (List.mem_append.mpr (.inl hx))
    have f1 : x.1 = p.1 := congrArg (·.1) e1
    have f2 : y.2.1 = p.2.2 := congrArg (·.2) e2
    have f3 : y.1 = p.2.1 := congrArg (·.1) e2
    exact List.mem_flatMap.mpr ⟨y, hy, List.mem_map.mpr ⟨n, hn, by rw [e3, f1, f2, f3]⟩⟩
  rw [fm_len (c := town.length) fun x _ => by rw [List.length_map]] at h1 h2
  have k1 := Nat.mul_le_mul_left os.length hl
  have k2 := Nat.mul_le_mul_left us.length hl
  omega
def EnOk (x : En) : Prop := Nme x.1 ∧ Nme x.2.1
def spPairs : MP.Spec := fun ws S Q _ => ∃ os us : List En, ws = [.tup [.lst (os.map eO), .lst (us.map eO)]] ∧ os.length + us.length ≤ 40 ∧ (∀ x ∈ os, EnOk x) ∧ (∀ x ∈ us, EnOk x) ∧ Q (.lst ((pairsF os us).map eT3)) S
theorem ok_pairs {Φ : Nat → MP.Spec} {ws : List W} {S : Sto} {Q : WK} {X X0 : XC} (h : spPairs ws S Q X) : wps Φ c14 (startW N14 ws) S (dEnds Q X0) := by
  obtain ⟨os, us, rfl, hl, ho, hu, q⟩ := h
  unfold c14
  show wps Φ _ [some (.tup [.lst (os.map eO), .lst (us.map eO)]), none, none, none, none, none] S (dEnds Q X0)
  repeat' contradiction
  refine ⟨_, rfl, ?_⟩
  refine for_map (fun i ρ S' => ∃ (r2 r3 r4 : Option W), ρ = [some (.tup [.lst (os.map eO), .lst (us.map eO)]), some (.lst ((pairsF (os.take i) us).map eT3)), r2, r3, r4, none] ∧ S = S')
    ⟨_, _, _, rfl, rfl⟩ (fun _ _ _ _ => rfl) (fun i x ρ S' hx h K hK => ?_) (fun ρ S' h => ?_)
  · obtain ⟨r2, r3, r4, rfl, rfl⟩ := h
    have hi : i < os.length := (List.getElem?_eq_some_iff.mp hx).1
    have hox := ho x (List.mem_of_getElem? hx)
    repeat' contradiction
    refine ⟨_, rfl, ?_⟩
    refine lc_fm (fun y : En => decide (y.2.1 = x.2.1)) (fun y => eT3 (x.1, y.1, x.2.1)) rfl (le_line (by omega)) (fun y hy K K2 k1 k2 => ?_) ?_
    · repeat' contradiction
      refine eq_s (hu y hy).2.can hox.2.can ?_
      show if decide (y.2.1 = x.2.1) = true then _ else _
      by_cases e1 : y.2.1 = x.2.1
      · refine iteT' (decide_eq_true e1) ?_
        repeat' contradiction
        exact k1 (decide_eq_true e1)
      · refine iteF' (decide_eq_false e1) ?_
        exact k2 (decide_eq_false e1)
    repeat' contradiction
    have l1 := pairs_len us (os.take i)
    have l2 : ((us.filter fun y => decide (y.2.1 = x.2.1)).map fun y => eT3 (x.1, y.1, x.2.1)).length ≤ us.length := by rw [List.length_map]; exact List.length_filter_le _ _
    have l3 : (os.take i).length * us.length ≤ 40 * 40 := Nat.mul_le_mul (by rw [List.length_take]; omega) (by omega)
    refine b_cat rfl rfl (le_line (by rw [List.length_map (as := pairsF _ _)]; omega)) ?_
    repeat' contradiction
    refine hK _ _ ⟨some (.str x.1), some (.str x.2.1), some (.int x.2.2), ?_, rfl⟩
    rw [pairs_snoc hx, List.map_append, List.map_map]; rfl
  · obtain ⟨r2, r3, r4, rfl, rfl⟩ := h
    rw [List.take_length]
    repeat' contradiction
    exact d_same q
end K07

set_option Elab.async false
set_option linter.all false
set_option maxRecDepth 100000
set_option maxHeartbeats 4000000
/-! K07d: the law's jobs, as long as hours and purses let. -/
namespace K07
open PySem PySem.Spec PyProof.Rows L2 MP NM DK LF LG LH LI BD EX EY EZ ST DU
local macro_rules
  | `(tactic| contradiction) => `(tactic| first | with_reducible refine d_in ?_ | with_reducible refine s_nil ?_ | with_reducible refine s_seq ?_ | with_reducible refine s_asg ?_ | with_reducible refine s_par ?_ | with_reducible refine s_expr ?_ | with_reducible refine s_ret ?_ | with_reducible refine s_retN ?_ | with_reducible refine s_iff ?_ | with_reducible refine s_fr ?_ | with_reducible refine s_cont ?_ | with_reducible refine s_brk ?_ | with_reducible refine s_pass ?_ | with_reducible refine s_augS ?_ | with_reducible refine e_int ?_ | with_reducible refine e_str ?_ | with_reducible refine e_bool ?_ | with_reducible refine e_none ?_ | with_reducible refine e_bin ?_ | with_reducible refine e_neg ?_ | with_reducible refine e_nt ?_ | with_reducible refine e_cmp ?_ | with_reducible refine e_chain ?_ | with_reducible refine e_an ?_ | with_reducible refine e_or ?_ | with_reducible refine an_1 ?_ | with_reducible refine an_2 ?_ | with_reducible refine or_1 ?_ | with_reducible refine or_2 ?_ | with_reducible refine e_ife ?_ | with_reducible refine e_call ?_ | with_reducible refine e_blt ?_ | with_reducible refine e_mth ?_ | with_reducible refine e_idx ?_ | with_reducible refine e_slc ?_ | with_reducible refine e_rev ?_ | with_reducible refine e_tup ?_ | with_reducible refine e_lst ?_ | with_reducible refine e_dnew ?_ | with_reducible refine e_dct ?_ | with_reducible refine e_isi ?_ | with_reducible refine e_lrg ?_ | with_reducible refine e_lzip ?_ | with_reducible refine e_stp ?_ | with_reducible refine e_sset ?_ | with_reducible refine es_n ?_ | with_reducible refine es_c ?_ | with_reducible refine o_nil ?_ | with_reducible refine o_var ?_ | with_reducible refine o_cst ?_ | with_reducible refine o_bin ?_ | with_reducible refine o_neg ?_ | with_reducible refine o_blt ?_ | with_reducible refine o_call ?_ | with_reducible refine ik ?_ | with_reducible refine ng ?_ | with_reducible refine tq_bl ?_ | with_reducible refine tq_int ?_ | with_reducible refine tq_non ?_ | with_reducible refine tq_lst ?_ | with_reducible refine tq_tup ?_ | with_reducible refine t_var ?_ | with_reducible refine t_call ?_ | with_reducible refine t_blt ?_ | with_reducible refine t_mth ?_ | with_reducible refine t_idx ?_ | with_reducible refine t_isi ?_ | with_reducible refine t_cst ?_ | with_reducible refine t_nt ?_ | with_reducible refine t_cmp ?_ | with_reducible refine t_chain ?_ | with_reducible refine t_an ?_ | with_reducible refine t_or ?_ | with_reducible refine ant_1 ?_ | with_reducible refine ant_2 ?_ | with_reducible refine ort_1 ?_ | with_reducible refine ort_2 ?_ | with_reducible refine tr_bl ?_ | with_reducible refine tr_int ?_ | with_reducible refine tr_lst ?_ | with_reducible refine tr_non ?_ | with_reducible refine c_nil ?_ | with_reducible refine c_one ?_ | with_reducible refine g_sub ?_ | with_reducible refine gs_n ?_ | with_reducible refine gs_c ?_ | with_reducible refine i_seq ?_ | with_reducible refine i_rng1 ?_ | with_reducible refine i_rng2 ?_ | with_reducible refine i_rng3 ?_ | with_reducible refine i_zip ?_ | with_reducible refine i_enm ?_ | with_reducible refine b_add ?_ | with_reducible refine b_sub ?_ | with_reducible refine c_lt ?_ | with_reducible refine c_le ?_ | with_reducible refine c_gt ?_ | with_reducible refine c_ge ?_ | with_reducible refine mk_f ?_ | with_reducible refine ref_and ?_ | with_reducible refine u_set ?_ | with_reducible refine eq_i ?_ | with_reducible refine ne_i ?_ | with_reducible refine eq_b ?_ | with_reducible refine ne_b ?_ | with_reducible refine is_b ?_ | with_reducible refine isn_b ?_ | with_reducible refine is_n ?_ | with_reducible refine isn_n ?_ | with_reducible refine e_v0 ?_ | with_reducible refine g_v0 ?_ | with_reducible refine s_u0 ?_ | with_reducible refine e_v1 ?_ | with_reducible refine g_v1 ?_ | with_reducible refine s_u1 ?_ | with_reducible refine e_v2 ?_ | with_reducible refine g_v2 ?_ | with_reducible refine s_u2 ?_ | with_reducible refine e_v3 ?_ | with_reducible refine g_v3 ?_ | with_reducible refine s_u3 ?_ | with_reducible refine e_v4 ?_ | with_reducible refine g_v4 ?_ | with_reducible refine s_u4 ?_ | with_reducible refine e_v5 ?_ | with_reducible refine g_v5 ?_ | with_reducible refine s_u5 ?_ | with_reducible refine e_v6 ?_ | with_reducible refine g_v6 ?_ | with_reducible refine s_u6 ?_ | with_reducible refine e_v7 ?_ | with_reducible refine g_v7 ?_ | with_reducible refine s_u7 ?_ | with_reducible refine e_v8 ?_ | with_reducible refine g_v8 ?_ | with_reducible refine s_u8 ?_ | with_reducible refine e_v9 ?_ | with_reducible refine g_v9 ?_ | with_reducible refine s_u9 ?_ | with_reducible refine e_v10 ?_ | with_reducible refine g_v10 ?_ | with_reducible refine s_u10 ?_ | with_reducible refine e_v11 ?_ | with_reducible refine g_v11 ?_ | with_reducible refine s_u11 ?_ | with_reducible refine e_v12 ?_ | with_reducible refine g_v12 ?_ | with_reducible refine s_u12 ?_ | with_reducible refine e_v13 ?_ | with_reducible refine g_v13 ?_ | with_reducible refine s_u13 ?_ | with_reducible refine e_v14 ?_ | with_reducible refine g_v14 ?_ | with_reducible refine s_u14 ?_ | with_reducible refine e_v15 ?_ | with_reducible refine g_v15 ?_ | with_reducible refine s_u15 ?_ | with_reducible refine e_v16 ?_ | with_reducible refine g_v16 ?_ | with_reducible refine s_u16 ?_ | with_reducible refine e_v17 ?_ | with_reducible refine g_v17 ?_ | with_reducible refine s_u17 ?_ | with_reducible refine e_v18 ?_ | with_reducible refine g_v18 ?_ | with_reducible refine s_u18 ?_ | with_reducible refine e_v19 ?_ | with_reducible refine g_v19 ?_ | with_reducible refine s_u19 ?_ | ((with_reducible refine e_lc' (ρ' := ?rr) ?hw ?_); (case hw => (dsimp only [wipeW, List.map, List.set]; exact rfl))) | ((with_reducible refine g_tup ?hl ?_); (case hl => exact rfl)) | with_reducible refine b_mod (by first | decide | omega) ?_ | ((with_reducible refine b_pow (pow_ok (by decide) (by decide) (by decide)) ?_); simp only [Int.reduceToNat, Int.reducePow]) | with_reducible refine le_and (by simp only [List.length_cons, List.length_nil]; decide) ?_ | with_reducible refine l_intB ?_ | with_reducible refine l_intI ?_ | with_reducible refine sl_f ?_ | (refine l_len (by exact rfl) (q := ?_); skip) | (refine l_list (by exact rfl) ?_; skip) | (refine ix_t (by exact rfl) ?_; skip))

/-- what stands by a name -/
def look (town : List Nb) (f : Nb → Int) (k : Str) : Int := ((town.find? fun x => decide (x.1 = k)).map f).getD 0
theorem look_of {town : List Nb} {f : Nb → Int} (nd : (town.map (·.1)).Nodup) {x : Nb} (hx : x ∈ town) : look town f x.1 = f x := by
  induction town with
  | nil => cases hx
  | cons y os ih =>
    rw [List.map_cons, List.nodup_cons] at nd
    unfold look
    rw [List.find?_cons]
    by_cases e : y.1 = x.1
    · rw [decide_eq_true e]
      rcases List.mem_cons.mp hx with rfl | hx
      · rfl
      · exact absurd (List.mem_map.mpr ⟨x, hx, e.symm⟩) nd.1
    · rw [decide_eq_false e]
      rcases List.mem_cons.mp hx with rfl | hx
      · exact absurd rfl e
      · exact ih nd.2 hx
theorem look_new {town : List Nb} {f : Nb → Int} (nd : (town.map (·.1)).Nodup) : putsW [] (town.map fun x => ((Sum.inr x.1 : Key), W.int (f x))) = kP town (look town f) := by
  have e : (town.map fun x => ((Sum.inr x.1 : Key), W.int (f x))).map (·.1) = (town.map (·.1)).map Sum.inr := by rw [List.map_map, List.map_map]; rfl
  rw [puts_new (acc := []) (by
    rw [List.nil_append, e]
    exact nodup_map nd fun x _ y _ e => inr_inj e), List.nil_append]
  exact List.map_congr_left fun x hx => by rw [look_of nd hx]
theorem spent_snoc {f : J4 → K2} {js : List J4} {j : J4} {k : K2} : EZ.spent f (js ++ [j]) k = EZ.spent f js k + if f j = k then j.2.2.2 else 0 := by
  unfold EZ.spent
  rw [List.map_append, List.sum_append]; simp
theorem come_snoc {js : List J4} {j : J4} {n : Str} : come (js ++ [j]) n = come js n + ((if j.1 = n then j.2.2.2 else 0) - (if j.2.1 = n then j.2.2.2 else 0)) := by
  unfold come
  rw [List.map_append, List.sum_append]; simp
abbrev t3 (j : J4) : T3 := (j.1, j.2.1, j.2.2.1)
/-- what holds of the jobs so far -/
structure Led (town : List Nb) (os us : List En) (ps : List T3) (i : Nat) (js : List J4) : Prop where
  len : js.length ≤ i
  pos : ∀ j ∈ js, 1 ≤ j.2.2.2
  sub : ∀ j ∈ js, t3 j ∈ ps.take i
  nd : (js.map t3).Nodup
  off : ∀ k ∈ os.map key, EZ.spent gv js k ≤ hrs os k
  wsh : ∀ k ∈ us.map key, EZ.spent tk js k ≤ hrs us k
  up : ∀ n ∈ town.map (·.1), come js n ≤ look town (fun x => x.2.2.2 - x.2.1) n
  dn : ∀ n ∈ town.map (·.1), -(look town (fun x => x.2.1 - x.2.2.1) n) ≤ come js n
theorem Led.next {town : List Nb} {os us : List En} {ps : List T3} {i : Nat} {js : List J4} (h : Led town os us ps i js) : Led town os us ps (i + 1) js :=
  ⟨Nat.le_succ_of_le h.len, h.pos, fun j hj => (List.take_sublist_take_left (Nat.le_succ i)).subset (h.sub j hj), h.nd, h.off, h.wsh, h.up, h.dn⟩
theorem Led.more {town : List Nb} {os us : List En} {ps : List T3} {i : Nat} {js : List J4} (h : Led town os us ps i js) (ndp : ps.Nodup) {j : J4} (hp : ps[i]? = some (t3 j)) (h1 : 1 ≤ j.2.2.2)
    (a1 : j.2.2.2 ≤ hrs os (gv j) - EZ.spent gv js (gv j)) (a2 : j.2.2.2 ≤ hrs us (tk j) - EZ.spent tk js (tk j))
    (a3 : j.2.2.2 ≤ look town (fun x => x.2.2.2 - x.2.1) j.1 - come js j.1) (a4 : j.2.2.2 ≤ look town (fun x => x.2.1 - x.2.2.1) j.2.1 + come js j.2.1) : Led town os us ps (i + 1) (js ++ [j]) := by
  have e : ps.take (i + 1) = ps.take i ++ [t3 j] := by rw [List.take_add_one, hp]; rfl
  have nd2 : (ps.take i ++ [t3 j]).Nodup := e ▸ ndp.sublist (List.take_sublist _ _)
  rw [List.nodup_append] at nd2
  refine ⟨by rw [List.length_append]; have := h.len; simp; omega, fun x hx => ?_, fun x hx => ?_, ?_, fun k hk => ?_, fun k hk => ?_, fun n hn => ?_, fun n hn => ?_⟩
  · rcases List.mem_append.mp hx with hx | hx
    · exact h.pos x hx
    · rw [List.mem_singleton.mp hx]; exact h1
  · rw [e]
    rcases List.mem_append.mp hx with hx | hx
    · exact List.mem_append.mpr (.inl (h.sub x hx))
    · rw [List.mem_singleton.mp hx]; exact List.mem_append.mpr (.inr (List.mem_singleton.mpr rfl))
  · rw [List.map_append, List.nodup_append]
    refine ⟨h.nd, List.nodup_cons.mpr ⟨(fun z => nomatch z), List.nodup_nil⟩, fun x hx y hy => ?_⟩
    obtain ⟨z, hz, rfl⟩ := List.mem_map.mp hx
    rw [List.mem_singleton.mp hy]
    exact nd2.2.2 _ (h.sub z hz) _ (List.mem_singleton.mpr rfl)
  · rw [spent_snoc]
    have := h.off k hk
    by_cases c : gv j = k
    · subst c; rw [if_pos rfl]; omega
    · rw [if_neg c]; omega
  · rw [spent_snoc]
    have := h.wsh k hk
    by_cases c : tk j = k
    · subst c; rw [if_pos rfl]; omega
    · rw [if_neg c]; omega
  · rw [come_snoc]
    have := h.up n hn
    by_cases c : j.1 = n
    · subst c
      rw [if_pos rfl]
      split <;> omega
    · rw [if_neg c]
      split <;> omega
  · rw [come_snoc]
    have := h.dn n hn
    by_cases c : j.2.1 = n
    · subst c
      rw [if_pos rfl]
      split <;> omega
    · rw [if_neg c]
      split <;> omega
theorem Led.ex {town : List Nb} {os us : List En} {js : List J4} {i : Nat} (hT : TownOk town) (hD : DayOk town (os ++ us)) (h : Led town os us (pairsF os us) i js) : Ex town os us js := by
  obtain ⟨ndo, ndu⟩ := nd_app hD.nd
  have inP : ∀ j ∈ js, t3 j ∈ pairsF os us := fun j hj => List.mem_of_mem_take (h.sub j hj)
  refine ⟨fun j hj => ?_, ?_, fun x hx => ?_, fun x hx => ?_, fun x hx => ?_⟩
  · obtain ⟨x, hx, y, hy, e1, e2⟩ := pairs_mem (inP j hj)
    exact ⟨h.pos j hj, List.mem_map.mpr ⟨x, hx, e1⟩, List.mem_map.mpr ⟨y, hy, e2⟩⟩
  · have e : (js.map fun j => ([.inr j.1, .inr j.2.1, .inr j.2.2.1] : List Key)) = (js.map t3).map fun t => [.inr t.1, .inr t.2.1, .inr t.2.2] := by rw [List.map_map]; rfl
    rw [e]
    refine nodup_map h.nd fun x _ y _ e => ?_
    injection e with e1 e
    injection e with e2 e
    injection e with e3 _
    exact Prod.ext (inr_inj e1) (Prod.ext (inr_inj e2) (inr_inj e3))
  · have := h.off (key x) (List.mem_map.mpr ⟨x, hx, rfl⟩)
    rwa [hrs_of ndo hx] at this
  · have := h.wsh (key x) (List.mem_map.mpr ⟨x, hx, rfl⟩)
    rwa [hrs_of ndu hx] at this
  · have a := h.up x.1 (List.mem_map.mpr ⟨x, hx, rfl⟩)
    have b := h.dn x.1 (List.mem_map.mpr ⟨x, hx, rfl⟩)
    rw [look_of hT.nd hx] at a b
    omega
end K07

set_option Elab.async false
set_option linter.all false
set_option maxRecDepth 100000
set_option maxHeartbeats 4000000
/-! K07e: the law's jobs, walked. -/
namespace K07
open PySem PySem.Spec PyProof.Rows L2 MP NM DK LF LG LH LI BD EX EY EZ ST DU
local macro_rules
  | `(tactic| contradiction) => `(tactic| first | with_reducible refine d_in ?_ | with_reducible refine s_nil ?_ | with_reducible refine s_seq ?_ | with_reducible refine s_asg ?_ | with_reducible refine s_par ?_ | with_reducible refine s_expr ?_ | with_reducible refine s_ret ?_ | with_reducible refine s_retN ?_ | with_reducible refine s_iff ?_ | with_reducible refine s_fr ?_ | with_reducible refine s_cont ?_ | with_reducible refine s_brk ?_ | with_reducible refine s_pass ?_ | with_reducible refine s_augS ?_ | with_reducible refine e_int ?_ | with_reducible refine e_str ?_ | with_reducible refine e_bool ?_ | with_reducible refine e_none ?_ | with_reducible refine e_bin ?_ | with_reducible refine e_neg ?_ | with_reducible refine e_nt ?_ | with_reducible refine e_cmp ?_ | with_reducible refine e_chain ?_ | with_reducible refine e_an ?_ | with_reducible refine e_or ?_ | with_reducible refine an_1 ?_ | with_reducible refine an_2 ?_ | with_reducible refine or_1 ?_ | with_reducible refine or_2 ?_ | with_reducible refine e_ife ?_ | with_reducible refine e_call ?_ | with_reducible refine e_blt ?_ | with_reducible refine e_mth ?_ | with_reducible refine e_idx ?_ | with_reducible refine e_slc ?_ | with_reducible refine e_rev ?_ | with_reducible refine e_tup ?_ | with_reducible refine e_lst ?_ | with_reducible refine e_dnew ?_ | with_reducible refine e_dct ?_ | with_reducible refine e_isi ?_ | with_reducible refine e_lrg ?_ | with_reducible refine e_lzip ?_ | with_reducible refine e_stp ?_ | with_reducible refine e_sset ?_ | with_reducible refine es_n ?_ | with_reducible refine es_c ?_ | with_reducible refine o_nil ?_ | with_reducible refine o_var ?_ | with_reducible refine o_cst ?_ | with_reducible refine o_bin ?_ | with_reducible refine o_neg ?_ | with_reducible refine o_blt ?_ | with_reducible refine o_call ?_ | with_reducible refine ik ?_ | with_reducible refine ng ?_ | with_reducible refine tq_bl ?_ | with_reducible refine tq_int ?_ | with_reducible refine tq_non ?_ | with_reducible refine tq_lst ?_ | with_reducible refine tq_tup ?_ | with_reducible refine t_var ?_ | with_reducible refine t_call ?_ | with_reducible refine t_blt ?_ | with_reducible refine t_mth ?_ | with_reducible refine t_idx ?_ | with_reducible refine t_isi ?_ | with_reducible refine t_cst ?_ | with_reducible refine t_nt ?_ | with_reducible refine t_cmp ?_ | with_reducible refine t_chain ?_ | with_reducible refine t_an ?_ | with_reducible refine t_or ?_ | with_reducible refine ant_1 ?_ | with_reducible refine ant_2 ?_ | with_reducible refine ort_1 ?_ | with_reducible refine ort_2 ?_ | with_reducible refine tr_bl ?_ | with_reducible refine tr_int ?_ | with_reducible refine tr_lst ?_ | with_reducible refine tr_non ?_ | with_reducible refine c_nil ?_ | with_reducible refine c_one ?_ | with_reducible refine g_sub ?_ | with_reducible refine gs_n ?_ | with_reducible refine gs_c ?_ | with_reducible refine i_seq ?_ | with_reducible refine i_rng1 ?_ | with_reducible refine i_rng2 ?_ | with_reducible refine i_rng3 ?_ | with_reducible refine i_zip ?_ | with_reducible refine i_enm ?_ | with_reducible refine b_add ?_ | with_reducible refine b_sub ?_ | with_reducible refine c_lt ?_ | with_reducible refine c_le ?_ | with_reducible refine c_gt ?_ | with_reducible refine c_ge ?_ | with_reducible refine mk_f ?_ | with_reducible refine ref_and ?_ | with_reducible refine u_set ?_ | with_reducible refine eq_i ?_ | with_reducible refine ne_i ?_ | with_reducible refine eq_b ?_ | with_reducible refine ne_b ?_ | with_reducible refine is_b ?_ | with_reducible refine isn_b ?_ | with_reducible refine is_n ?_ | with_reducible refine isn_n ?_ | with_reducible refine e_v0 ?_ | with_reducible refine g_v0 ?_ | with_reducible refine s_u0 ?_ | with_reducible refine e_v1 ?_ | with_reducible refine g_v1 ?_ | with_reducible refine s_u1 ?_ | with_reducible refine e_v2 ?_ | with_reducible refine g_v2 ?_ | with_reducible refine s_u2 ?_ | with_reducible refine e_v3 ?_ | with_reducible refine g_v3 ?_ | with_reducible refine s_u3 ?_ | with_reducible refine e_v4 ?_ | with_reducible refine g_v4 ?_ | with_reducible refine s_u4 ?_ | with_reducible refine e_v5 ?_ | with_reducible refine g_v5 ?_ | with_reducible refine s_u5 ?_ | with_reducible refine e_v6 ?_ | with_reducible refine g_v6 ?_ | with_reducible refine s_u6 ?_ | with_reducible refine e_v7 ?_ | with_reducible refine g_v7 ?_ | with_reducible refine s_u7 ?_ | with_reducible refine e_v8 ?_ | with_reducible refine g_v8 ?_ | with_reducible refine s_u8 ?_ | with_reducible refine e_v9 ?_ | with_reducible refine g_v9 ?_ | with_reducible refine s_u9 ?_ | with_reducible refine e_v10 ?_ | with_reducible refine g_v10 ?_ | with_reducible refine s_u10 ?_ | with_reducible refine e_v11 ?_ | with_reducible refine g_v11 ?_ | with_reducible refine s_u11 ?_ | with_reducible refine e_v12 ?_ | with_reducible refine g_v12 ?_ | with_reducible refine s_u12 ?_ | with_reducible refine e_v13 ?_ | with_reducible refine g_v13 ?_ | with_reducible refine s_u13 ?_ | with_reducible refine e_v14 ?_ | with_reducible refine g_v14 ?_ | with_reducible refine s_u14 ?_ | with_reducible refine e_v15 ?_ | with_reducible refine g_v15 ?_ | with_reducible refine s_u15 ?_ | with_reducible refine e_v16 ?_ | with_reducible refine g_v16 ?_ | with_reducible refine s_u16 ?_ | with_reducible refine e_v17 ?_ | with_reducible refine g_v17 ?_ | with_reducible refine s_u17 ?_ | with_reducible refine e_v18 ?_ | with_reducible refine g_v18 ?_ | with_reducible refine s_u18 ?_ | with_reducible refine e_v19 ?_ | with_reducible refine g_v19 ?_ | with_reducible refine s_u19 ?_ | ((with_reducible refine e_lc' (ρ' := ?rr) ?hw ?_); (case hw => (dsimp only [wipeW, List.map, List.set]; exact rfl))) | ((with_reducible refine g_tup ?hl ?_); (case hl => exact rfl)) | with_reducible refine b_mod (by first | decide | omega) ?_ | ((with_reducible refine b_pow (pow_ok (by decide) (by decide) (by decide)) ?_); simp only [Int.reduceToNat, Int.reducePow]) | with_reducible refine le_and (by simp only [List.length_cons, List.length_nil]; decide) ?_ | with_reducible refine l_intB ?_ | with_reducible refine l_intI ?_ | with_reducible refine sl_f ?_ | (refine l_len (by exact rfl) (q := ?_); skip) | (refine l_list (by exact rfl) ?_; skip) | (refine ix_t (by exact rfl) ?_; skip))

theorem new_of {S T : Sto} {p : Addr} (f : Fewer S T) (h : T p = none) : S p = none := by
  cases z : S p with
  | none => rfl
  | some o => rw [f p o z] at h; cases h
def spJobs : MP.Spec := fun ws S Q _ => ∃ (ns : List Int) (a : Addr) (k : Int) (town : List Nb) (os us : List En), ws = [iL ns, .ref a, .lst (town.map eN), .tup [.lst (os.map eO), .lst (us.map eO)]] ∧ ns.length ≤ 63 ∧ Ctr S a k 2000 ∧ TownOk town ∧ DayOk town (os ++ us) ∧ town.length ≤ 12 ∧ os.length + us.length ≤ 40 ∧
  ∀ (js : List J4) k', Ex town os us js → js.length ≤ 240 → k ≤ k' → k' ≤ k + 1300 → Q (.lst (js.map eJ4)) (putC S a k')
theorem ok_jobs {Φ : Nat → MP.Spec} (hd : Φ 6 = spDraw) (hh : Φ 8 = spHours) (hp : Φ 14 = spPairs) {ws : List W} {S : Sto} {Q : WK} {X X0 : XC} (h : spJobs ws S Q X) : wps Φ c15 (startW N15 ws) S (dEnds Q X0) := by
  obtain ⟨ns, a, k, town, os, us, rfl, hn, ⟨ha, h0, h9⟩, hT, hD, hl, hl2, q⟩ := h
  unfold c15
  show wps Φ _ [some (iL ns), some (.ref a), some (.lst (town.map eN)), some (.tup [.lst (os.map eO), .lst (us.map eO)]), none, none, none, none, none, none, none, none, none, none, none] S (dEnds Q X0)
  obtain ⟨ndo, ndu⟩ := nd_app hD.nd
  have nmk : ∀ x ∈ os ++ us, EnOk x := fun x hx => by
    obtain ⟨y, hy, e⟩ := List.mem_map.mp (hD.nm x hx)
    exact ⟨by rw [← e]; exact hT.nm y hy, hD.sk x hx⟩
  repeat' contradiction
  refine ⟨_, rfl, ?_⟩
  refine lc_c0 rfl ?_
  repeat' contradiction
  refine ⟨_, rfl, ?_⟩
  refine lc_mp (fun x : En => W.tup [.tup [.str x.1, .str x.2.1], .int x.2.2]) rfl (le_line (by omega)) (fun x _ K hK => ?_) ?_
  · repeat' contradiction
    refine sl_t ?_
    show (wp Φ _).es _ _ _ _
    repeat' contradiction
    exact hK
  repeat' contradiction
  refine l_dictT rfl (prT_side os) fun p1 h1 => ?_
  rw [kF_new ndo]
  refine ⟨lt_line (by show (0 : Nat) ≤ 10000; decide), lc_c0 rfl ?_⟩
  repeat' contradiction
  refine ⟨_, rfl, ?_⟩
  refine lc_mp (fun x : En => W.tup [.tup [.str x.1, .str x.2.1], .int x.2.2]) rfl (le_line (by omega)) (fun x _ K hK => ?_) ?_
  · repeat' contradiction
    refine sl_t ?_
    show (wp Φ _).es _ _ _ _
    repeat' contradiction
    exact hK
  repeat' contradiction
  refine l_dictT rfl (prT_side us) fun p2 h2 => ?_
  rw [kF_new ndu]
  have n1a : p1 ≠ a := ne_new ha h1
  have n21 : p2 ≠ p1 := ne_new sup_same h2
  have h2' : S p2 = none := (sup_ne n21).symm.trans h2
  have n2a : p2 ≠ a := ne_new ha h2'
  have a1 : (sup (sup S p1 (.dt (kF os (hrs os)))) p2 (.dt (kF us (hrs us)))) p1 = some (.dt (kF os (hrs os))) := (sup_ne n21.symm).trans sup_same
  have a2 : (sup (sup S p1 (.dt (kF os (hrs os)))) p2 (.dt (kF us (hrs us)))) p2 = some (.dt (kF us (hrs us))) := sup_same
  have hF : Fewer S (sup (sup S p1 (.dt (kF os (hrs os)))) p2 (.dt (kF us (hrs us)))) := fewer_more (fewer_more fewer_rfl h1) h2'
  generalize sup (sup S p1 (.dt (kF os (hrs os)))) p2 (.dt (kF us (hrs us))) = S2 at a1 a2 hF ⊢
  refine ⟨lt_line (by show (1 : Nat) ≤ 10000; decide), lc_n rfl ?_⟩
  repeat' contradiction
  refine ⟨_, rfl, ?_⟩
  refine lc_mp (fun x : Nb => W.tup [.str x.1, .int (x.2.2.2 - x.2.1)]) rfl (le_line (by omega)) (fun x _ K hK => ?_) ?_
  · repeat' contradiction
    exact hK
  repeat' contradiction
  refine l_dictK rfl (prK_map (fun x : Nb => x.1) (fun x => W.int (x.2.2.2 - x.2.1)) town) fun p3 h3 => ?_
  rw [look_new hT.nd (f := fun x => x.2.2.2 - x.2.1)]
  have n31 : p3 ≠ p1 := ne_new a1 h3
  have n32 : p3 ≠ p2 := ne_new a2 h3
  have h3' : S p3 = none := new_of hF h3
  have n3a : p3 ≠ a := ne_new ha h3'
  have hF3 : Fewer S (sup S2 p3 (.dk (kP town (look town fun x => x.2.2.2 - x.2.1)))) := fewer_more hF h3'
  have b1 : (sup S2 p3 (.dk (kP town (look town fun x => x.2.2.2 - x.2.1)))) p1 = some (.dt (kF os (hrs os))) := (sup_ne n31.symm).trans a1
  have b2 : (sup S2 p3 (.dk (kP town (look town fun x => x.2.2.2 - x.2.1)))) p2 = some (.dt (kF us (hrs us))) := (sup_ne n32.symm).trans a2
  have b3 : (sup S2 p3 (.dk (kP town (look town fun x => x.2.2.2 - x.2.1)))) p3 = some (.dk (kP town (look town fun x => x.2.2.2 - x.2.1))) := sup_same
  generalize sup S2 p3 (.dk (kP town (look town fun x => x.2.2.2 - x.2.1))) = S3 at b1 b2 b3 hF3 ⊢
  repeat' contradiction
  refine ⟨_, rfl, ?_⟩
  refine lc_mp (fun x : Nb => W.tup [.str x.1, .int (x.2.1 - x.2.2.1)]) rfl (le_line (by omega)) (fun x _ K hK => ?_) ?_
  · repeat' contradiction
    exact hK
  repeat' contradiction
  refine l_dictK rfl (prK_map (fun x : Nb => x.1) (fun x => W.int (x.2.1 - x.2.2.1)) town) fun p4 h4 => ?_
  rw [look_new hT.nd (f := fun x => x.2.1 - x.2.2.1)]
  have n41 : p4 ≠ p1 := ne_new b1 h4
  have n42 : p4 ≠ p2 := ne_new b2 h4
  have n43 : p4 ≠ p3 := ne_new b3 h4
  have h4' : S p4 = none := new_of hF3 h4
  have n4a : p4 ≠ a := ne_new ha h4'
  repeat' contradiction
  refine mk_t fun p5 h5 => ?_
  have n54 : p5 ≠ p4 := ne_new sup_same h5
  have h5b : S3 p5 = none := (sup_ne n54).symm.trans h5
  have n51 : p5 ≠ p1 := ne_new b1 h5b
  have n52 : p5 ≠ p2 := ne_new b2 h5b
  have n53 : p5 ≠ p3 := ne_new b3 h5b
  have h5' : S p5 = none := new_of hF3 h5b
  have n5a : p5 ≠ a := ne_new ha h5'
  have hF5 : Fewer S (sup (sup S3 p4 (.dk (kP town (look town fun x => x.2.1 - x.2.2.1)))) p5 (.lst [])) := fewer_more (fewer_more hF3 h4') h5'
  have c1 : (sup (sup S3 p4 (.dk (kP town (look town fun x => x.2.1 - x.2.2.1)))) p5 (.lst [])) p1 = some (.dt (kF os (hrs os))) := (sup_ne n51.symm).trans ((sup_ne n41.symm).trans b1)
  have c2 : (sup (sup S3 p4 (.dk (kP town (look town fun x => x.2.1 - x.2.2.1)))) p5 (.lst [])) p2 = some (.dt (kF us (hrs us))) := (sup_ne n52.symm).trans ((sup_ne n42.symm).trans b2)
  have c3 : (sup (sup S3 p4 (.dk (kP town (look town fun x => x.2.1 - x.2.2.1)))) p5 (.lst [])) p3 = some (.dk (kP town (look town fun x => x.2.2.2 - x.2.1))) := (sup_ne n53.symm).trans ((sup_ne n43.symm).trans b3)
  have c4 : (sup (sup S3 p4 (.dk (kP town (look town fun x => x.2.1 - x.2.2.1)))) p5 (.lst [])) p4 = some (.dk (kP town (look town fun x => x.2.1 - x.2.2.1))) := (sup_ne n54.symm).trans sup_same
  have c5 : (sup (sup S3 p4 (.dk (kP town (look town fun x => x.2.1 - x.2.2.1)))) p5 (.lst [])) p5 = some (.lst []) := sup_same
  generalize sup (sup S3 p4 (.dk (kP town (look town fun x => x.2.1 - x.2.2.1)))) p5 (.lst []) = S5 at c1 c2 c3 c4 c5 hF5 ⊢
  repeat' contradiction
  rw [hp]
  refine ⟨os, us, rfl, hl2, fun x hx => nmk x (List.mem_append.mpr (.inl hx)), fun x hx => nmk x (List.mem_append.mpr (.inr hx)), ?_⟩
  have few := pairs_few hD hl hl2
  have ndp := pairs_nd ndu ndo
  have inP : ∀ p ∈ pairsF os us, (p.1, p.2.2) ∈ os.map key ∧ (p.2.1, p.2.2) ∈ us.map key ∧ p.1 ∈ town.map (·.1) ∧ p.2.1 ∈ town.map (·.1) := fun p hp => by
    obtain ⟨x, hx, y, hy, e1, e2⟩ := pairs_mem hp
    refine ⟨List.mem_map.mpr ⟨x, hx, e1⟩, List.mem_map.mpr ⟨y, hy, e2⟩, ?_, ?_⟩
    · have e : x.1 = p.1 := congrArg (·.1) e1
      rw [← e]; exact hD.nm x (List.mem_append.mpr (.inl hx))
    · have e : y.1 = p.2.1 := congrArg (·.1) e2
      rw [← e]; exact hD.nm y (List.mem_append.mpr (.inr hy))
  repeat' contradiction
  refine ⟨_, rfl, ?_⟩
  refine for_map (fun i ρ S' => ∃ (js : List J4) (F G : K2 → Int) (O U : Str → Int) (k' : Int) (r8 r9 r10 r11 r12 : Option W), ρ = [some (iL ns), some (.ref a), some (.lst (town.map eN)), some (.tup [.lst (os.map eO), .lst (us.map eO)]), some (.lst [.ref p1, .ref p2]), some (.ref p3), some (.ref p4), some (.ref p5), r8, r9, r10, r11, r12, none, none] ∧
      S' a = some (.lst [.int k']) ∧ S' p1 = some (.dt (kF os F)) ∧ S' p2 = some (.dt (kF us G)) ∧ S' p3 = some (.dk (kP town O)) ∧ S' p4 = some (.dk (kP town U)) ∧ S' p5 = some (.lst (js.map eJ4)) ∧ Fewer (putC S a k') S' ∧ Led town os us (pairsF os us) i js ∧
      (∀ k, F k = hrs os k - EZ.spent gv js k) ∧ (∀ k, G k = hrs us k - EZ.spent tk js k) ∧ (∀ n, O n = look town (fun x => x.2.2.2 - x.2.1) n - come js n) ∧ (∀ n, U n = look town (fun x => x.2.1 - x.2.2.1) n + come js n) ∧ k ≤ k' ∧ k' ≤ k + 5 * i)
    ⟨[], _, _, _, _, k, _, _, _, _, _, rfl, hF5 a _ ha, c1, c2, c3, c4, c5, by rw [show putC S a k = S from sup_eq ha]; exact hF5, ?_, fun k => by simp [EZ.spent], fun k => by simp [EZ.spent], fun k => by simp [come], fun k => by simp [come], Int.le_refl _, by omega⟩ (fun _ _ _ _ => rfl) (fun i p ρ S' hx h K hK => ?_) (fun ρ S' h => ?_)
  · refine ⟨Nat.le_refl _, (fun _ h => nomatch h), (fun _ h => nomatch h), List.nodup_nil, fun k hk => ?_, fun k hk => ?_, fun n hn => ?_, fun n hn => ?_⟩
    · obtain ⟨x, hx, rfl⟩ := List.mem_map.mp hk
      have := (hD.bd x (List.mem_append.mpr (.inl hx))).1
      rw [hrs_of ndo hx]; show (0 : Int) ≤ _; omega
    · obtain ⟨x, hx, rfl⟩ := List.mem_map.mp hk
      have := (hD.bd x (List.mem_append.mpr (.inr hx))).1
      rw [hrs_of ndu hx]; show (0 : Int) ≤ _; omega
    · obtain ⟨x, hx, rfl⟩ := List.mem_map.mp hn
      have := (hT.bd x hx)
      rw [look_of hT.nd hx]; show (0 : Int) ≤ _; omega
    · obtain ⟨x, hx, rfl⟩ := List.mem_map.mp hn
      have := (hT.bd x hx)
      rw [look_of hT.nd hx]; show _ ≤ (0 : Int); omega
  · obtain ⟨js, F, G, O, U, k', r8, r9, r10, r11, r12, rfl, hA, b1, b2, b3, b4, b5, f, L, e1, e2, e3, e4, k1, k2⟩ := h
    obtain ⟨g, t, s⟩ := p
    have hi : i < (pairsF os us).length := (List.getElem?_eq_some_iff.mp hx).1
    obtain ⟨m1, m2, mg, mt⟩ := inP _ (List.mem_of_getElem? hx)
    repeat' contradiction
    refine ix_l rfl ?_
    repeat' contradiction
    refine ix_dt b1 (k := EY.k2 (g, s)) rfl (kF_get m1) ?_
    repeat' contradiction
    refine ix_l rfl ?_
    repeat' contradiction
    refine ix_dt b2 (k := EY.k2 (t, s)) rfl (kF_get m2) ?_
    repeat' contradiction
    refine ix_d b3 rfl (kP_get mg) ?_
    repeat' contradiction
    refine ix_d b4 rfl (kP_get mt) ?_
    repeat' contradiction
    refine fun m hm hle => ?_
    simp only [List.forall_mem_cons] at hle
    obtain ⟨q1, q2, q3, q4, _⟩ := hle
    repeat' contradiction
    rw [hh]
    refine u_hours hn hA (by omega) (by omega) rfl fun ho _ _ => ?_
    repeat' contradiction
    rw [hd]
    refine u_draw hn sup_same (by omega) (by omega) (by decide) (by decide) sup_sup fun d d0 d1 => ?_
    repeat' contradiction
    refine ix_pick (P := fun w => ∃ z, w = .int z) d0 d1 (by simp) fun w hw => ?_
    obtain ⟨z0, rfl⟩ := hw
    repeat' contradiction
    refine l_min2 fun z hz => ?_
    have hzm : z ≤ m := by omega
    have f2 : ∀ c, Fewer (putC S a c) (putC S' a c) := fun c => by
      have := fewer_put (a := a) (o := .lst [.int c]) f
      rwa [sup_sup] at this
    have skip : ∀ c, k' ≤ c → c ≤ k' + 5 → K [some (iL ns), some (.ref a), some (.lst (town.map eN)), some (.tup [.lst (os.map eO), .lst (us.map eO)]), some (.lst [.ref p1, .ref p2]), some (.ref p3), some (.ref p4), some (.ref p5), some (.str g), some (.str t), some (.str s), some (.int m), some (.int z), none, none] (putC S' a c) := fun c c0 c1 =>
      hK _ _ ⟨js, F, G, O, U, c, _, _, _, _, _, rfl, sup_same, (sup_ne n1a).trans b1, (sup_ne n2a).trans b2, (sup_ne n3a).trans b3, (sup_ne n4a).trans b4, (sup_ne n5a).trans b5, f2 c, L.next, e1, e2, e3, e4, by omega, by omega⟩
    repeat' contradiction
    refine MP.ite_d (fun c1 => ?_) (fun c1 => ?_)
    rotate_left
    · repeat' contradiction
      exact skip _ (by omega) (by omega)
    repeat' contradiction
    rw [hd]
    refine u_draw hn sup_same (by omega) (by omega) (by decide) (by decide) sup_sup fun d2 d20 d21 => ?_
    repeat' contradiction
    refine MP.ite_d (fun c2 => ?_) (fun c2 => ?_)
    rotate_left
    · repeat' contradiction
      exact skip _ (by omega) (by omega)
    have hA' : (sup S' a (.lst [.int (k' + 3 + 1 + 1)])) a = some (.lst [.int (k' + 3 + 1 + 1)]) := sup_same
    have b1' : (sup S' a (.lst [.int (k' + 3 + 1 + 1)])) p1 = some (.dt (kF os F)) := (sup_ne n1a).trans b1
    have b2' : (sup S' a (.lst [.int (k' + 3 + 1 + 1)])) p2 = some (.dt (kF us G)) := (sup_ne n2a).trans b2
    have b3' : (sup S' a (.lst [.int (k' + 3 + 1 + 1)])) p3 = some (.dk (kP town O)) := (sup_ne n3a).trans b3
    have b4' : (sup S' a (.lst [.int (k' + 3 + 1 + 1)])) p4 = some (.dk (kP town U)) := (sup_ne n4a).trans b4
    have b5' : (sup S' a (.lst [.int (k' + 3 + 1 + 1)])) p5 = some (.lst (js.map eJ4)) := (sup_ne n5a).trans b5
    have f' : Fewer (putC S a (k' + 3 + 1 + 1)) (sup S' a (.lst [.int (k' + 3 + 1 + 1)])) := f2 (k' + 3 + 1 + 1)
    generalize sup S' a (.lst [.int (k' + 3 + 1 + 1)]) = S6 at hA' b1' b2' b3' b4' b5' f' ⊢
    repeat' contradiction
    refine m_rcv rfl b5' ?_
    repeat' contradiction
    refine m_app b5' (lt_line (by rw [List.length_map]; have := L.len; omega)) ?_
    repeat' contradiction
    refine ix_l rfl ?_
    repeat' contradiction
    refine ix_dt (S := sup S6 p5 (.lst (js.map eJ4 ++ [eJ4 (g, t, s, z)]))) ((sup_ne n51.symm).trans b1') (k := EY.k2 (g, s)) rfl (kF_get m1) ?_
    have d1' : (sup S6 p5 (.lst (js.map eJ4 ++ [eJ4 (g, t, s, z)]))) p1 = some (.dt (kF os F)) := (sup_ne n51.symm).trans b1'
    have d2' : (sup S6 p5 (.lst (js.map eJ4 ++ [eJ4 (g, t, s, z)]))) p2 = some (.dt (kF us G)) := (sup_ne n52.symm).trans b2'
    have d3' : (sup S6 p5 (.lst (js.map eJ4 ++ [eJ4 (g, t, s, z)]))) p3 = some (.dk (kP town O)) := (sup_ne n53.symm).trans b3'
    have d4' : (sup S6 p5 (.lst (js.map eJ4 ++ [eJ4 (g, t, s, z)]))) p4 = some (.dk (kP town U)) := (sup_ne n54.symm).trans b4'
    have d5' : (sup S6 p5 (.lst (js.map eJ4 ++ [eJ4 (g, t, s, z)]))) p5 = some (.lst ((js ++ [(g, t, s, z)]).map eJ4)) := by rw [List.map_append]; exact sup_same
    have dA' : (sup S6 p5 (.lst (js.map eJ4 ++ [eJ4 (g, t, s, z)]))) a = some (.lst [.int (k' + 3 + 1 + 1)]) := (sup_ne n5a.symm).trans hA'
    have f'' : Fewer (putC S a (k' + 3 + 1 + 1)) (sup S6 p5 (.lst (js.map eJ4 ++ [eJ4 (g, t, s, z)]))) := fewer_more f' (none_sup h5' n5a)
    generalize sup S6 p5 (.lst (js.map eJ4 ++ [eJ4 (g, t, s, z)])) = S7 at d1' d2' d3' d4' d5' dA' f'' ⊢
    repeat' contradiction
    refine ix_l rfl ?_
    repeat' contradiction
    refine st_dt d1' (k := EY.k2 (g, s)) rfl (lt_line (by rw [List.length_map]; omega)) ?_
    rw [kF_set m1]
    repeat' contradiction
    refine ix_l rfl ?_
    repeat' contradiction
    refine ix_dt ((sup_ne n21).trans d2') (k := EY.k2 (t, s)) rfl (kF_get m2) ?_
    repeat' contradiction
    refine ix_l rfl ?_
    repeat' contradiction
    refine st_dt ((sup_ne n21).trans d2') (k := EY.k2 (t, s)) rfl (lt_line (by rw [List.length_map]; omega)) ?_
    rw [kF_set m2]
    repeat' contradiction
    have g3 : sup (sup S7 p1 (.dt (kF os fun k => if k = (g, s) then F (g, s) - z else F k))) p2 (.dt (kF us fun k => if k = (t, s) then G (t, s) - z else G k)) p3 = some (.dk (kP town O)) := (sup_ne n32).trans ((sup_ne n31).trans d3')
    have g4 : sup (sup S7 p1 (.dt (kF os fun k => if k = (g, s) then F (g, s) - z else F k))) p2 (.dt (kF us fun k => if k = (t, s) then G (t, s) - z else G k)) p4 = some (.dk (kP town U)) := (sup_ne n42).trans ((sup_ne n41).trans d4')
    have g5 : sup (sup S7 p1 (.dt (kF os fun k => if k = (g, s) then F (g, s) - z else F k))) p2 (.dt (kF us fun k => if k = (t, s) then G (t, s) - z else G k)) p5 = some (.lst ((js ++ [(g, t, s, z)]).map eJ4)) := (sup_ne n52).trans ((sup_ne n51).trans d5')
    have gA : sup (sup S7 p1 (.dt (kF os fun k => if k = (g, s) then F (g, s) - z else F k))) p2 (.dt (kF us fun k => if k = (t, s) then G (t, s) - z else G k)) a = some (.lst [.int (k' + 3 + 1 + 1)]) := (sup_ne n2a.symm).trans ((sup_ne n1a.symm).trans dA')
    have g1 : sup (sup S7 p1 (.dt (kF os fun k => if k = (g, s) then F (g, s) - z else F k))) p2 (.dt (kF us fun k => if k = (t, s) then G (t, s) - z else G k)) p1 = some (.dt (kF os fun k => if k = (g, s) then F (g, s) - z else F k)) := (sup_ne n21.symm).trans sup_same
    have g2 : sup (sup S7 p1 (.dt (kF os fun k => if k = (g, s) then F (g, s) - z else F k))) p2 (.dt (kF us fun k => if k = (t, s) then G (t, s) - z else G k)) p2 = some (.dt (kF us fun k => if k = (t, s) then G (t, s) - z else G k)) := sup_same
    have gF : Fewer (putC S a (k' + 3 + 1 + 1)) (sup (sup S7 p1 (.dt (kF os fun k => if k = (g, s) then F (g, s) - z else F k))) p2 (.dt (kF us fun k => if k = (t, s) then G (t, s) - z else G k))) := fewer_more (fewer_more f'' (none_sup h1 n1a)) (none_sup h2' n2a)
    generalize sup (sup S7 p1 (.dt (kF os fun k => if k = (g, s) then F (g, s) - z else F k))) p2 (.dt (kF us fun k => if k = (t, s) then G (t, s) - z else G k)) = S8 at g1 g2 g3 g4 g5 gA gF ⊢
    refine ix_d g3 rfl (kP_get mg) ?_
    repeat' contradiction
    refine st_d g3 rfl (lt_line (by rw [List.length_map]; omega)) ?_
    rw [kP_set mg]
    repeat' contradiction
    refine ix_d sup_same rfl (kP_get mt) ?_
    repeat' contradiction
    refine st_d sup_same rfl (lt_line (by rw [List.length_map]; omega)) ?_
    rw [kP_set mt, sup_sup]
    repeat' contradiction
    refine ix_d ((sup_ne n43).trans g4) rfl (kP_get mg) ?_
    repeat' contradiction
    refine st_d ((sup_ne n43).trans g4) rfl (lt_line (by rw [List.length_map]; omega)) ?_
    rw [kP_set mg]
    repeat' contradiction
    refine ix_d sup_same rfl (kP_get mt) ?_
    repeat' contradiction
    refine st_d sup_same rfl (lt_line (by rw [List.length_map]; omega)) ?_
    rw [kP_set mt, sup_sup]
    repeat' contradiction
    have w1 : z ≤ hrs os (g, s) - EZ.spent gv js (g, s) := by rw [← e1]; omega
    have w2 : z ≤ hrs us (t, s) - EZ.spent tk js (t, s) := by rw [← e2]; omega
    have w3 : z ≤ look town (fun x => x.2.2.2 - x.2.1) g - come js g := by rw [← e3]; omega
    have w4 : z ≤ look town (fun x => x.2.1 - x.2.2.1) t + come js t := by rw [← e4]; omega
    refine hK _ _ ⟨js ++ [(g, t, s, z)], _, _, _, _, k' + 3 + 1 + 1, _, _, _, _, _, rfl, (sup_ne n4a.symm).trans ((sup_ne n3a.symm).trans gA), (sup_ne n41.symm).trans ((sup_ne n31.symm).trans g1), (sup_ne n42.symm).trans ((sup_ne n32.symm).trans g2), (sup_ne n43.symm).trans sup_same, sup_same, (sup_ne n54).trans ((sup_ne n53).trans g5), fewer_more (fewer_more gF (none_sup h3' n3a)) (none_sup h4' n4a), L.more ndp hx (by show 1 ≤ z; omega) w1 w2 w3 w4, fun k => ?_, fun k => ?_, fun n => ?_, fun n => ?_, by omega, by omega⟩
    · rw [spent_snoc]
      show (if k = (g, s) then F (g, s) - z else F k) = hrs os k - (EZ.spent gv js k + if (g, s) = k then z else 0)
      by_cases c : (g, s) = k
      · rw [if_pos c.symm, if_pos c, ← c, e1]; omega
      · rw [if_neg (fun z => c z.symm), if_neg c, e1]; omega
    · rw [spent_snoc]
      show (if k = (t, s) then G (t, s) - z else G k) = hrs us k - (EZ.spent tk js k + if (t, s) = k then z else 0)
      by_cases c : (t, s) = k
      · rw [if_pos c.symm, if_pos c, ← c, e2]; omega
      · rw [if_neg (fun z => c z.symm), if_neg c, e2]; omega
    · rw [come_snoc]
      show (if n = t then (if t = g then O g - z else O t) + z else (if n = g then O g - z else O n)) = look town (fun x => x.2.2.2 - x.2.1) n - (come js n + ((if g = n then z else 0) - (if t = n then z else 0)))
      have y1 := e3 n
      by_cases c : n = t
      · subst c
        rw [if_pos rfl, if_pos rfl]
        by_cases c2 : n = g
        · rw [if_pos c2, if_pos c2.symm, ← c2]; omega
        · rw [if_neg c2, if_neg (fun z => c2 z.symm)]; omega
      · rw [if_neg c, if_neg (show ¬ t = n from fun z => c z.symm)]
        by_cases c2 : n = g
        · rw [if_pos c2, if_pos c2.symm, ← c2]; omega
        · rw [if_neg c2, if_neg (fun z => c2 z.symm)]; omega
    · rw [come_snoc]
      show (if n = t then (if t = g then U g + z else U t) - z else (if n = g then U g + z else U n)) = look town (fun x => x.2.1 - x.2.2.1) n + (come js n + ((if g = n then z else 0) - (if t = n then z else 0)))
      have y1 := e4 n
      by_cases c : n = t
      · subst c
        rw [if_pos rfl, if_pos rfl]
        by_cases c2 : n = g
        · rw [if_pos c2, if_pos c2.symm, ← c2]; omega
        · rw [if_neg c2, if_neg (fun z => c2 z.symm)]; omega
      · rw [if_neg c, if_neg (show ¬ t = n from fun z => c z.symm)]
        by_cases c2 : n = g
        · rw [if_pos c2, if_pos c2.symm, ← c2]; omega
        · rw [if_neg c2, if_neg (fun z => c2 z.symm)]; omega
  · obtain ⟨js, F, G, O, U, k', r8, r9, r10, r11, r12, rfl, hA, b1, b2, b3, b4, b5, f, L, e1, e2, e3, e4, k1, k2⟩ := h
    repeat' contradiction
    refine s_gfrz rfl b5 ?_
    dsimp only [List.set]
    repeat' contradiction
    refine d_ret (fewer_del f (none_sup h5' n5a)) (q js k' (L.ex hT hD) (by have := L.len; omega) k1 (by omega))
end K07

set_option Elab.async false
set_option linter.all false
set_option maxRecDepth 100000
set_option maxHeartbeats 4000000
/-! K07r: a ring is an exchange. -/
namespace K07
open PySem PySem.Spec PyProof.Rows L2 MP NM DK LF LG LH LI BD EX EY EZ ST DU
theorem sum_no {α κ : Type} [DecidableEq κ] {f : α → κ} {c : Int} {k : κ} : ∀ {xs : List α}, (∀ x ∈ xs, f x ≠ k) → (xs.map fun x => if f x = k then c else 0).sum = 0
  | [], _ => rfl
  | x :: xs, h => by
    rw [List.map_cons, List.sum_cons, if_neg (h x List.mem_cons_self), sum_no fun y hy => h y (List.mem_cons_of_mem _ hy)]; rfl
theorem sum_one {α κ : Type} [DecidableEq κ] {f : α → κ} {c : Int} : ∀ {xs : List α}, (xs.map f).Nodup → ∀ x0 ∈ xs, (xs.map fun x => if f x = f x0 then c else 0).sum = c
  | [], _, _, h => nomatch h
  | x :: xs, nd, x0, h0 => by
    rw [List.map_cons, List.nodup_cons] at nd
    rw [List.map_cons, List.sum_cons]
    rcases List.mem_cons.mp h0 with e | h1
    · rw [← e, if_pos rfl, sum_no fun y hy z => nd.1 (List.mem_map.mpr ⟨y, hy, by rw [z, e]⟩)]; omega
    · rw [if_neg fun z => nd.1 (List.mem_map.mpr ⟨x0, h1, z.symm⟩), sum_one nd.2 x0 h1]; omega
section
variable {m : Nat} (nm sk : Nat → Str) (hr : Nat → Int)
/-- the next one's place -/
abbrev nx (m i : Nat) : Nat := (i + 1) % m
abbrev rO (m : Nat) : List En := (List.range m).map fun i => (nm i, sk i, hr (2 * i))
abbrev rU (m : Nat) : List En := (List.range m).map fun i => (nm (nx m i), sk i, hr (2 * i + 1))
abbrev rJ (m : Nat) (l : Int) : List J4 := (List.range m).map fun i => (nm i, nm (nx m i), sk i, l)
variable {nm sk hr}
theorem nx_lt (hm : 0 < m) (i : Nat) : nx m i < m := Nat.mod_lt _ hm
theorem nx_inj {i j : Nat} (hi : i < m) (hj : j < m) (e : nx m i = nx m j) : i = j := by
  unfold nx at e
  by_cases a : i + 1 = m
  · by_cases b : j + 1 = m
    · omega
    · rw [a, Nat.mod_self, Nat.mod_eq_of_lt (by omega)] at e; omega
  · by_cases b : j + 1 = m
    · rw [b, Nat.mod_self, Nat.mod_eq_of_lt (by omega)] at e; omega
    · rw [Nat.mod_eq_of_lt (by omega), Nat.mod_eq_of_lt (by omega)] at e; omega
theorem nx_at {i : Nat} (hi : i < m) : ∃ j, j < m ∧ nx m j = i := by
  by_cases c : i = 0
  · subst c
    exact ⟨m - 1, by omega, by show (m - 1 + 1) % m = 0; rw [show m - 1 + 1 = m by omega, Nat.mod_self]⟩
  · exact ⟨i - 1, by omega, by show (i - 1 + 1) % m = i; rw [show i - 1 + 1 = i by omega, Nat.mod_eq_of_lt hi]⟩
theorem nx_ne {i : Nat} (h2 : 2 ≤ m) (hi : i < m) : nx m i ≠ i := fun e => by
  unfold nx at e
  by_cases a : i + 1 = m
  · rw [a, Nat.mod_self] at e; omega
  · rw [Nat.mod_eq_of_lt (by omega)] at e; omega
theorem ring_day {town : List Nb} (hnm : town.map (·.1) = (List.range m).map nm) (hT : TownOk town) (h2 : 2 ≤ m) (inj : ∀ i j, i < m → j < m → nm i = nm j → i = j) (sinj : ∀ i j, i < m → j < m → sk i = sk j → i = j) (hs : ∀ i, i < m → Nme (sk i))
    (hh : ∀ i, i < 2 * m → 1 ≤ hr i ∧ hr i ≤ 10 ^ 30) : DayOk town (rO nm sk hr m ++ rU nm sk hr m) := by
  have mem : ∀ i, i < m → nm i ∈ town.map (·.1) := fun i hi => by rw [hnm]; exact List.mem_map.mpr ⟨i, List.mem_range.mpr hi, rfl⟩
  refine ⟨?_, fun x hx => ?_, fun x hx => ?_, fun x hx => ?_⟩
  · rw [List.map_append, List.map_map, List.map_map, List.nodup_append]
    refine ⟨nodup_map List.nodup_range fun i hi j hj e => sinj i j (List.mem_range.mp hi) (List.mem_range.mp hj) (congrArg Prod.snd e), nodup_map List.nodup_range fun i hi j hj e => sinj i j (List.mem_range.mp hi) (List.mem_range.mp hj) (congrArg Prod.snd e), fun x hx y hy e => ?_⟩
    obtain ⟨i, hi, rfl⟩ := List.mem_map.mp hx
    obtain ⟨j, hj, rfl⟩ := List.mem_map.mp hy
    have hi := List.mem_range.mp hi
    have hj := List.mem_range.mp hj
    have e1 : nm i = nm (nx m j) := congrArg Prod.fst e
    have e2 : sk i = sk j := congrArg Prod.snd e
    have := sinj i j hi hj e2
    subst this
    exact nx_ne h2 hi (inj _ _ hi (nx_lt (by omega) i) e1).symm
  · rcases List.mem_append.mp hx with hx | hx
    · obtain ⟨i, hi, rfl⟩ := List.mem_map.mp hx
      exact mem i (List.mem_range.mp hi)
    · obtain ⟨i, hi, rfl⟩ := List.mem_map.mp hx
      exact mem _ (nx_lt (by omega) i)
  · rcases List.mem_append.mp hx with hx | hx
    · obtain ⟨i, hi, rfl⟩ := List.mem_map.mp hx
      exact hs i (List.mem_range.mp hi)
    · obtain ⟨i, hi, rfl⟩ := List.mem_map.mp hx
      exact hs i (List.mem_range.mp hi)
  · rcases List.mem_append.mp hx with hx | hx
    · obtain ⟨i, hi, rfl⟩ := List.mem_map.mp hx
      exact hh _ (by have := List.mem_range.mp hi; omega)
    · obtain ⟨i, hi, rfl⟩ := List.mem_map.mp hx
      exact hh _ (by have := List.mem_range.mp hi; omega)
theorem ring_ex {town : List Nb} {l : Int} (hnm : town.map (·.1) = (List.range m).map nm) (hp : ∀ x ∈ town, x.2.2.1 = x.2.1 ∧ x.2.2.2 = x.2.1) (h2 : 2 ≤ m) (inj : ∀ i j, i < m → j < m → nm i = nm j → i = j) (sinj : ∀ i j, i < m → j < m → sk i = sk j → i = j)
    (hl : 1 ≤ l) (hh : ∀ i, i < 2 * m → l ≤ hr i) : Ex town (rO nm sk hr m) (rU nm sk hr m) (rJ nm sk m l) := by
  refine ⟨fun j hj => ?_, ?_, fun x hx => ?_, fun x hx => ?_, fun x hx => ?_⟩
  · obtain ⟨i, hi, rfl⟩ := List.mem_map.mp hj
    exact ⟨hl, List.mem_map.mpr ⟨_, List.mem_map.mpr ⟨i, hi, rfl⟩, rfl⟩, List.mem_map.mpr ⟨_, List.mem_map.mpr ⟨i, hi, rfl⟩, rfl⟩⟩
  · rw [List.map_map]
    refine nodup_map List.nodup_range fun i hi j hj e => ?_
    have e : [Sum.inr (nm i), Sum.inr (nm (nx m i)), (Sum.inr (sk i) : Key)] = [.inr (nm j), .inr (nm (nx m j)), .inr (sk j)] := e
    injection e with e1 e
    injection e with e2 e
    injection e with e3 _
    exact sinj i j (List.mem_range.mp hi) (List.mem_range.mp hj) (inr_inj e3)
  · obtain ⟨i, hi, rfl⟩ := List.mem_map.mp hx
    have z := sum_one (f := fun i => ((nm i, sk i) : K2)) (c := l) (nodup_map List.nodup_range fun i hi j hj e => sinj i j (List.mem_range.mp hi) (List.mem_range.mp hj) (congrArg Prod.snd e)) i hi
    have e : EZ.spent gv (rJ nm sk m l) (nm i, sk i) = l := by
      unfold EZ.spent rJ
      rw [List.map_map]; exact z
    show EZ.spent gv (rJ nm sk m l) (nm i, sk i) ≤ hr (2 * i)
    rw [e]
    exact hh _ (by have := List.mem_range.mp hi; omega)
  · obtain ⟨i, hi, rfl⟩ := List.mem_map.mp hx
    have z := sum_one (f := fun i => ((nm (nx m i), sk i) : K2)) (c := l) (nodup_map List.nodup_range fun i hi j hj e => sinj i j (List.mem_range.mp hi) (List.mem_range.mp hj) (congrArg Prod.snd e)) i hi
    have e : EZ.spent tk (rJ nm sk m l) (nm (nx m i), sk i) = l := by
      unfold EZ.spent rJ
      rw [List.map_map]; exact z
    show EZ.spent tk (rJ nm sk m l) (nm (nx m i), sk i) ≤ hr (2 * i + 1)
    rw [e]
    exact hh _ (by have := List.mem_range.mp hi; omega)
  · obtain ⟨p1, p2⟩ := hp x hx
    have hxm : x.1 ∈ (List.range m).map nm := by rw [← hnm]; exact List.mem_map.mpr ⟨x, hx, rfl⟩
    obtain ⟨i, hi, ei⟩ := List.mem_map.mp hxm
    obtain ⟨j, hj, ej⟩ := nx_at (List.mem_range.mp hi)
    have z1 := sum_one (f := nm) (c := l) (nodup_map List.nodup_range fun i hi j hj e => inj i j (List.mem_range.mp hi) (List.mem_range.mp hj) e) i hi
    have z2 := sum_one (f := fun i => nm (nx m i)) (c := l) (nodup_map List.nodup_range fun i hi j hj e => nx_inj (List.mem_range.mp hi) (List.mem_range.mp hj) (inj _ _ (nx_lt (by omega) i) (nx_lt (by omega) j) e)) j (List.mem_range.mpr hj)
    have c : come (rJ nm sk m l) x.1 = 0 := by
      rw [come_at, ← ei]
      have a1 : at' (fun j : J4 => j.1) (rJ nm sk m l) (nm i) = l := by
        unfold at' rJ
        rw [List.map_map]; exact z1
      have a2 : at' (fun j : J4 => j.2.1) (rJ nm sk m l) (nm i) = l := by
        unfold at' rJ
        rw [List.map_map]
        simp only [ej] at z2
        exact z2
      rw [a1, a2]; omega
    rw [c]; omega
end
end K07

set_option Elab.async false
set_option linter.all false
set_option maxRecDepth 100000
set_option maxHeartbeats 4000000
/-! K07s: the ring, walked. -/
namespace K07
open PySem PySem.Spec PyProof.Rows L2 MP NM DK LF LG LH LI BD EX EY EZ ST DU
local macro_rules
  | `(tactic| contradiction) => `(tactic| first | with_reducible refine d_in ?_ | with_reducible refine s_nil ?_ | with_reducible refine s_seq ?_ | with_reducible refine s_asg ?_ | with_reducible refine s_par ?_ | with_reducible refine s_expr ?_ | with_reducible refine s_ret ?_ | with_reducible refine s_retN ?_ | with_reducible refine s_iff ?_ | with_reducible refine s_fr ?_ | with_reducible refine s_cont ?_ | with_reducible refine s_brk ?_ | with_reducible refine s_pass ?_ | with_reducible refine s_augS ?_ | with_reducible refine e_int ?_ | with_reducible refine e_str ?_ | with_reducible refine e_bool ?_ | with_reducible refine e_none ?_ | with_reducible refine e_bin ?_ | with_reducible refine e_neg ?_ | with_reducible refine e_nt ?_ | with_reducible refine e_cmp ?_ | with_reducible refine e_chain ?_ | with_reducible refine e_an ?_ | with_reducible refine e_or ?_ | with_reducible refine an_1 ?_ | with_reducible refine an_2 ?_ | with_reducible refine or_1 ?_ | with_reducible refine or_2 ?_ | with_reducible refine e_ife ?_ | with_reducible refine e_call ?_ | with_reducible refine e_blt ?_ | with_reducible refine e_mth ?_ | with_reducible refine e_idx ?_ | with_reducible refine e_slc ?_ | with_reducible refine e_rev ?_ | with_reducible refine e_tup ?_ | with_reducible refine e_lst ?_ | with_reducible refine e_dnew ?_ | with_reducible refine e_dct ?_ | with_reducible refine e_isi ?_ | with_reducible refine e_lrg ?_ | with_reducible refine e_lzip ?_ | with_reducible refine e_stp ?_ | with_reducible refine e_sset ?_ | with_reducible refine es_n ?_ | with_reducible refine es_c ?_ | with_reducible refine o_nil ?_ | with_reducible refine o_var ?_ | with_reducible refine o_cst ?_ | with_reducible refine o_bin ?_ | with_reducible refine o_neg ?_ | with_reducible refine o_blt ?_ | with_reducible refine o_call ?_ | with_reducible refine ik ?_ | with_reducible refine ng ?_ | with_reducible refine tq_bl ?_ | with_reducible refine tq_int ?_ | with_reducible refine tq_non ?_ | with_reducible refine tq_lst ?_ | with_reducible refine tq_tup ?_ | with_reducible refine t_var ?_ | with_reducible refine t_call ?_ | with_reducible refine t_blt ?_ | with_reducible refine t_mth ?_ | with_reducible refine t_idx ?_ | with_reducible refine t_isi ?_ | with_reducible refine t_cst ?_ | with_reducible refine t_nt ?_ | with_reducible refine t_cmp ?_ | with_reducible refine t_chain ?_ | with_reducible refine t_an ?_ | with_reducible refine t_or ?_ | with_reducible refine ant_1 ?_ | with_reducible refine ant_2 ?_ | with_reducible refine ort_1 ?_ | with_reducible refine ort_2 ?_ | with_reducible refine tr_bl ?_ | with_reducible refine tr_int ?_ | with_reducible refine tr_lst ?_ | with_reducible refine tr_non ?_ | with_reducible refine c_nil ?_ | with_reducible refine c_one ?_ | with_reducible refine g_sub ?_ | with_reducible refine gs_n ?_ | with_reducible refine gs_c ?_ | with_reducible refine i_seq ?_ | with_reducible refine i_rng1 ?_ | with_reducible refine i_rng2 ?_ | with_reducible refine i_rng3 ?_ | with_reducible refine i_zip ?_ | with_reducible refine i_enm ?_ | with_reducible refine b_add ?_ | with_reducible refine b_sub ?_ | with_reducible refine c_lt ?_ | with_reducible refine c_le ?_ | with_reducible refine c_gt ?_ | with_reducible refine c_ge ?_ | with_reducible refine mk_f ?_ | with_reducible refine ref_and ?_ | with_reducible refine u_set ?_ | with_reducible refine eq_i ?_ | with_reducible refine ne_i ?_ | with_reducible refine eq_b ?_ | with_reducible refine ne_b ?_ | with_reducible refine is_b ?_ | with_reducible refine isn_b ?_ | with_reducible refine is_n ?_ | with_reducible refine isn_n ?_ | with_reducible refine e_v0 ?_ | with_reducible refine g_v0 ?_ | with_reducible refine s_u0 ?_ | with_reducible refine e_v1 ?_ | with_reducible refine g_v1 ?_ | with_reducible refine s_u1 ?_ | with_reducible refine e_v2 ?_ | with_reducible refine g_v2 ?_ | with_reducible refine s_u2 ?_ | with_reducible refine e_v3 ?_ | with_reducible refine g_v3 ?_ | with_reducible refine s_u3 ?_ | with_reducible refine e_v4 ?_ | with_reducible refine g_v4 ?_ | with_reducible refine s_u4 ?_ | with_reducible refine e_v5 ?_ | with_reducible refine g_v5 ?_ | with_reducible refine s_u5 ?_ | with_reducible refine e_v6 ?_ | with_reducible refine g_v6 ?_ | with_reducible refine s_u6 ?_ | with_reducible refine e_v7 ?_ | with_reducible refine g_v7 ?_ | with_reducible refine s_u7 ?_ | with_reducible refine e_v8 ?_ | with_reducible refine g_v8 ?_ | with_reducible refine s_u8 ?_ | with_reducible refine e_v9 ?_ | with_reducible refine g_v9 ?_ | with_reducible refine s_u9 ?_ | with_reducible refine e_v10 ?_ | with_reducible refine g_v10 ?_ | with_reducible refine s_u10 ?_ | with_reducible refine e_v11 ?_ | with_reducible refine g_v11 ?_ | with_reducible refine s_u11 ?_ | with_reducible refine e_v12 ?_ | with_reducible refine g_v12 ?_ | with_reducible refine s_u12 ?_ | with_reducible refine e_v13 ?_ | with_reducible refine g_v13 ?_ | with_reducible refine s_u13 ?_ | with_reducible refine e_v14 ?_ | with_reducible refine g_v14 ?_ | with_reducible refine s_u14 ?_ | with_reducible refine e_v15 ?_ | with_reducible refine g_v15 ?_ | with_reducible refine s_u15 ?_ | with_reducible refine e_v16 ?_ | with_reducible refine g_v16 ?_ | with_reducible refine s_u16 ?_ | with_reducible refine e_v17 ?_ | with_reducible refine g_v17 ?_ | with_reducible refine s_u17 ?_ | with_reducible refine e_v18 ?_ | with_reducible refine g_v18 ?_ | with_reducible refine s_u18 ?_ | with_reducible refine e_v19 ?_ | with_reducible refine g_v19 ?_ | with_reducible refine s_u19 ?_ | ((with_reducible refine e_lc' (ρ' := ?rr) ?hw ?_); (case hw => (dsimp only [wipeW, List.map, List.set]; exact rfl))) | ((with_reducible refine g_tup ?hl ?_); (case hl => exact rfl)) | with_reducible refine b_mod (by first | decide | omega) ?_ | ((with_reducible refine b_pow (pow_ok (by decide) (by decide) (by decide)) ?_); simp only [Int.reduceToNat, Int.reducePow]) | with_reducible refine le_and (by simp only [List.length_cons, List.length_nil]; decide) ?_ | with_reducible refine l_intB ?_ | with_reducible refine l_intI ?_ | with_reducible refine sl_f ?_ | (refine l_len (by exact rfl) (q := ?_); skip) | (refine l_list (by exact rfl) ?_; skip) | (refine ix_t (by exact rfl) ?_; skip))

theorem e_v20 {Φ : Nat → MP.Spec} {ρ : MP.Env} {S : Sto} {Q : WK} {X : XC} {w : W} {r0 r1 r2 r3 r4 r5 r6 r7 r8 r9 r10 r11 r12 r13 r14 r15 r16 r17 r18 r19 : Option W} (q : Q w S) : (wp Φ (.var 20)).e (r0 :: r1 :: r2 :: r3 :: r4 :: r5 :: r6 :: r7 :: r8 :: r9 :: r10 :: r11 :: r12 :: r13 :: r14 :: r15 :: r16 :: r17 :: r18 :: r19 :: some w :: ρ) S Q X := ⟨w, rfl, q⟩
theorem g_v20 {Φ : Nat → MP.Spec} {ρ : MP.Env} {S : Sto} {w : W} {r0 r1 r2 r3 r4 r5 r6 r7 r8 r9 r10 r11 r12 r13 r14 r15 r16 r17 r18 r19 r20 : Option W} {Q : MP.Env → Sto → Prop} (q : Q (r0 :: r1 :: r2 :: r3 :: r4 :: r5 :: r6 :: r7 :: r8 :: r9 :: r10 :: r11 :: r12 :: r13 :: r14 :: r15 :: r16 :: r17 :: r18 :: r19 :: some w :: ρ) S) : (wp Φ (.tnm 20)).g w (r0 :: r1 :: r2 :: r3 :: r4 :: r5 :: r6 :: r7 :: r8 :: r9 :: r10 :: r11 :: r12 :: r13 :: r14 :: r15 :: r16 :: r17 :: r18 :: r19 :: r20 :: ρ) S Q := q
theorem e_v21 {Φ : Nat → MP.Spec} {ρ : MP.Env} {S : Sto} {Q : WK} {X : XC} {w : W} {r0 r1 r2 r3 r4 r5 r6 r7 r8 r9 r10 r11 r12 r13 r14 r15 r16 r17 r18 r19 r20 : Option W} (q : Q w S) : (wp Φ (.var 21)).e (r0 :: r1 :: r2 :: r3 :: r4 :: r5 :: r6 :: r7 :: r8 :: r9 :: r10 :: r11 :: r12 :: r13 :: r14 :: r15 :: r16 :: r17 :: r18 :: r19 :: r20 :: some w :: ρ) S Q X := ⟨w, rfl, q⟩
theorem g_v21 {Φ : Nat → MP.Spec} {ρ : MP.Env} {S : Sto} {w : W} {r0 r1 r2 r3 r4 r5 r6 r7 r8 r9 r10 r11 r12 r13 r14 r15 r16 r17 r18 r19 r20 r21 : Option W} {Q : MP.Env → Sto → Prop} (q : Q (r0 :: r1 :: r2 :: r3 :: r4 :: r5 :: r6 :: r7 :: r8 :: r9 :: r10 :: r11 :: r12 :: r13 :: r14 :: r15 :: r16 :: r17 :: r18 :: r19 :: r20 :: some w :: ρ) S) : (wp Φ (.tnm 21)).g w (r0 :: r1 :: r2 :: r3 :: r4 :: r5 :: r6 :: r7 :: r8 :: r9 :: r10 :: r11 :: r12 :: r13 :: r14 :: r15 :: r16 :: r17 :: r18 :: r19 :: r20 :: r21 :: ρ) S Q := q

def purses : List Int := [3, 0, -7, 3, 0, -7, 3, 0, -7, 3, 0, -7]
def spRing : MP.Spec := fun ws S Q _ => ∃ (ns : List Int) (a : Addr) (k : Int), ws = [iL ns, .ref a] ∧ ns.length ≤ 63 ∧ Ctr S a k 1000 ∧
  ∀ (town : List Nb) (os us : List En) (js : List J4) (k' : Int) (p : Addr) (kvs : List (List Key × W)), TownOk town → DayOk town (os ++ us) → town.length ≤ 12 → os.length + us.length ≤ 40 → Ex town os us js → js.length ≤ 240 → k ≤ k' → k' ≤ k + 200 → S p = none →
    Q (.tup [.lst (town.map eN), .tup [.lst (os.map eO), .lst (us.map eO)], .lst (js.map eJ4), .ref p]) (sup (putC S a k') p (.dt kvs))
theorem get_nm {xs : List Str} {i : Nat} (h : i < xs.length) : xs[i]? = some (xs.getD i "") := by
  rw [List.getD_eq_getElem?_getD, List.getElem?_eq_getElem h]; rfl
theorem get_hr {xs : List Int} {i : Nat} (h : i < xs.length) : xs[i]? = some (xs.getD i 0) := by
  rw [List.getD_eq_getElem?_getD, List.getElem?_eq_getElem h]; rfl
theorem map_nm (xs : List Str) : xs = (List.range xs.length).map fun i => xs.getD i "" := by
  refine List.ext_getElem? fun i => ?_
  rw [List.getElem?_map]
  by_cases h : i < xs.length
  · rw [List.getElem?_range h, get_nm h]; rfl
  · rw [List.getElem?_eq_none (by omega), List.getElem?_eq_none (by rw [List.length_range]; omega)]; rfl
theorem inj_nm {xs : List Str} (nd : xs.Nodup) {i j : Nat} (hi : i < xs.length) (hj : j < xs.length) (e : xs.getD i "" = xs.getD j "") : i = j := by
  have nd2 : ((List.range xs.length).map fun i => xs.getD i "").Nodup := by rw [← map_nm]; exact nd
  exact inj_nd nd2 (List.mem_range.mpr hi) (List.mem_range.mpr hj) e
theorem nxI {i m : Nat} : ((0 + (i : Int) + 1) % (m : Int)).toNat = nx m i := by
  rw [show (0 + (i : Int) + 1) = ((i + 1 : Nat) : Int) by omega]; rfl
theorem ok_ring {Φ : Nat → MP.Spec} (hd : Φ 6 = spDraw) (hs : Φ 7 = spNames) (hh : Φ 8 = spHours) {ws : List W} {S : Sto} {Q : WK} {X X0 : XC} (h : spRing ws S Q X) : wps Φ c16 (startW N16 ws) S (dEnds Q X0) := by
  obtain ⟨ns, a, k, rfl, hn, ⟨ha, h0, h9⟩, q⟩ := h
  unfold c16
  show wps Φ _ [some (iL ns), some (.ref a), none, none, none, none, none, none, none, none, none, none, none, none, none, none, none, none, none, none, none, none] S (dEnds Q X0)
  repeat' contradiction
  rw [hd]
  refine u_draw hn ha h0 (by omega) (by decide) (by decide) rfl fun v v0 v1 => ?_
  obtain ⟨m, hm⟩ : ∃ m : Nat, 2 + v = (m : Int) := ⟨(2 + v).toNat, by omega⟩
  repeat' contradiction
  rw [hm]
  repeat' contradiction
  rw [hs]
  refine ⟨ns, a, k + 1, m, rfl, hn, ⟨sup_same, by omega, by omega⟩, by omega, fun xs x1 x2 x3 => ?_⟩
  rw [show putC (putC S a (k + 1)) a (k + 1 + 3) = putC S a (k + 4) by rw [show k + 1 + 3 = k + 4 by omega]; exact sup_sup]
  repeat' contradiction
  refine b_rep rfl (by decide) (by decide) ?_
  repeat' contradiction
  refine ⟨_, _, rfl, rfl, ?_⟩
  rw [show ((List.replicate (4 : Int).toNat [W.int 3, W.int 0, W.int (-7)]).flatten) = purses.map W.int from rfl, zip_map]
  have zl : (xs.zip purses).length = m := by rw [List.length_zip, x1]; show min m 12 = m; omega
  refine lc_mp (fun p : Str × Int => eN (p.1, p.2, p.2, p.2)) ⟨rfl, rfl⟩ (le_line (by omega)) (fun p hp K hK => ?_) ?_
  · repeat' contradiction
    refine g_v20 ?_
    repeat' contradiction
    refine g_v21 ?_
    repeat' contradiction
    refine e_v20 ?_
    repeat' contradiction
    refine e_v21 ?_
    repeat' contradiction
    refine e_v21 ?_
    repeat' contradiction
    refine e_v21 ?_
    repeat' contradiction
    exact hK
  repeat' contradiction
  obtain ⟨town, ht⟩ : ∃ town, town = (xs.zip purses).map fun p => ((p.1, p.2, p.2, p.2) : Nb) := ⟨_, rfl⟩
  have e : ((xs.zip purses).map fun p => eN (p.1, p.2, p.2, p.2)) = town.map eN := by rw [ht, List.map_map]; rfl
  rw [e]
  have tn : town.map (·.1) = xs := by
    rw [ht, List.map_map]
    exact List.map_fst_zip (by rw [x1]; show m ≤ 12; omega)
  have tl : town.length = m := by rw [← x1, ← tn, List.length_map]
  have tp : ∀ x ∈ town, (x.2.2.1 = x.2.1 ∧ x.2.2.2 = x.2.1) ∧ -7 ≤ x.2.1 ∧ x.2.1 ≤ 3 := fun x hx => by
    rw [ht] at hx
    obtain ⟨p, hp, rfl⟩ := List.mem_map.mp hx
    have hp2 : p.2 ∈ purses := (List.of_mem_zip (a := p.1) (b := p.2) hp).2
    have b : ∀ z ∈ purses, -7 ≤ z ∧ z ≤ 3 := by decide
    exact ⟨⟨rfl, rfl⟩, b _ hp2⟩
  have hT : TownOk town := ⟨by rw [tn]; exact x2, fun x hx => x3 _ (by rw [← tn]; exact List.mem_map.mpr ⟨x, hx, rfl⟩), fun x hx => by obtain ⟨⟨a1, a2⟩, a3, a4⟩ := tp x hx; rw [a1, a2]; omega⟩
  clear e ht zl
  refine ⟨_, rfl, ?_⟩
  refine lc_mp (fun x : Nb => W.str x.1) rfl (le_line (by omega)) (fun x _ K hK => ?_) ?_
  · repeat' contradiction
    exact hK
  rw [show (town.map fun x : Nb => W.str x.1) = xs.map W.str by rw [← tn, List.map_map]; rfl]
  repeat' contradiction
  rw [hs]
  refine ⟨ns, a, k + 4, m, rfl, hn, ⟨sup_same, by omega, by omega⟩, by omega, fun ys y1 y2 y3 => ?_⟩
  rw [show putC (putC S a (k + 4)) a (k + 4 + 3) = putC S a (k + 7) by rw [show k + 4 + 3 = k + 7 by omega]; exact sup_sup]
  repeat' contradiction
  rw [hh]
  refine u_hours hn sup_same (by omega) (by omega) sup_sup fun l l0 l1 => ?_
  rw [show k + 7 + 3 = k + 10 by omega]
  repeat' contradiction
  refine b_mul (mul_ok (by omega) (by omega)) ?_
  refine rg1 (by omega) ?_
  refine lc_inv (fun i acc S1 => ∃ (ms : List Int) (c : Int), acc = ms.map W.int ∧ ms.length = i ∧ (∀ x ∈ ms, 0 ≤ x) ∧ S1 = putC S a c ∧ k + 10 ≤ c ∧ c ≤ k + 10 + i)
    ⟨[], k + 10, rfl, rfl, (fun _ h => nomatch h), rfl, Int.le_refl _, by omega⟩ (fun _ _ _ _ => trivial) (fun i w acc S1 hw h K hK => ?_) (fun acc S1 h => ?_)
  · obtain ⟨ms, c, rfl, e1, e2, rfl, e3, e4⟩ := h
    have hi := (List.getElem?_eq_some_iff.mp hw).1
    rw [rng_map, List.length_map, List.length_range] at hi
    repeat' contradiction
    rw [if_pos rfl]
    repeat' contradiction
    rw [hd]
    refine u_draw hn sup_same (by omega) (by omega) (by decide) (by decide) sup_sup fun z z0 z1 => ?_
    refine ix_pick (P := fun w => ∃ h : Int, w = .int h ∧ 0 ≤ h) z0 z1 ?_ ?_
    · simp only [List.forall_mem_cons]
      refine ⟨⟨_, rfl, by omega⟩, ⟨_, rfl, by omega⟩, ⟨_, rfl, by omega⟩, fun _ h => nomatch h⟩
    · rintro _ ⟨h, rfl, hh0⟩
      refine ⟨lt_line (by rw [List.length_map]; omega), hK _ _ ⟨ms ++ [h], c + 1, by rw [List.map_append]; rfl, by rw [List.length_append, e1]; rfl, fun x hx => ?_, rfl, by omega, by omega⟩⟩
      rcases List.mem_append.mp hx with hx | hx
      · exact e2 x hx
      · rw [List.mem_singleton.mp hx]; exact hh0
  obtain ⟨ms, c, rfl, e1, e2, rfl, e3, e4⟩ := h
  rw [rng_map, List.length_map, List.length_range] at e1 e4
  have e1 : ms.length = 2 * m := by omega
  refine mk_t fun p7 h7 => ?_
  have n7a : p7 ≠ a := ne_new sup_same h7
  have h7' : S p7 = none := (sup_ne n7a).symm.trans h7
  repeat' contradiction
  refine b_mul (mul_ok (by omega) (by omega)) ?_
  repeat' contradiction
  rw [hd]
  refine u_draw hn ((sup_ne n7a.symm).trans sup_same) (by omega) (by omega) (by omega) (by omega) (show putC (sup (putC S a c) p7 (.lst (ms.map W.int))) a (c + 1) = sup (sup (putC S a c) p7 (.lst (ms.map W.int))) a (.lst [.int (c + 1)]) from rfl) fun sp s0 s1 => ?_
  have hA : (sup (sup (putC S a c) p7 (.lst (ms.map W.int))) a (.lst [.int (c + 1)])) a = some (.lst [.int (c + 1)]) := sup_same
  have h7s : (sup (sup (putC S a c) p7 (.lst (ms.map W.int))) a (.lst [.int (c + 1)])) p7 = some (.lst (ms.map W.int)) := (sup_ne n7a).trans sup_same
  have hF : Fewer (putC S a (c + 1)) (sup (sup (putC S a c) p7 (.lst (ms.map W.int))) a (.lst [.int (c + 1)])) := by
    have := fewer_put (a := a) (o := .lst [.int (c + 1)]) (fewer_more (fewer_rfl (S := putC S a c)) (none_sup h7' n7a) (o := .lst (ms.map W.int)))
    rwa [sup_sup] at this
  generalize sup (sup (putC S a c) p7 (.lst (ms.map W.int))) a (.lst [.int (c + 1)]) = S3 at hA h7s hF ⊢
  repeat' contradiction
  refine st_map (enc := W.int) (x := 0) h7s rfl s0 (by omega) ?_
  have h7t : (sup S3 p7 (.lst ((ms.set sp.toNat 0).map W.int))) p7 = some (.lst ((ms.set sp.toNat 0).map W.int)) := sup_same
  have hA2 : (sup S3 p7 (.lst ((ms.set sp.toNat 0).map W.int))) a = some (.lst [.int (c + 1)]) := (sup_ne n7a.symm).trans hA
  have hF2 : Fewer (putC S a (c + 1)) (sup S3 p7 (.lst ((ms.set sp.toNat 0).map W.int))) := fewer_more hF (none_sup h7' n7a)
  generalize sup S3 p7 (.lst ((ms.set sp.toNat 0).map W.int)) = S4 at h7t hA2 hF2 ⊢
  have f1 : (ms.set sp.toNat 0).length = 2 * m := by rw [List.length_set, e1]
  have f2 : ∀ x ∈ ms.set sp.toNat 0, 0 ≤ x := fun x hx => by
    rcases List.mem_or_eq_of_mem_set hx with hx | hx
    · exact e2 x hx
    · rw [hx]; exact Int.le_refl _
  generalize ms.set sp.toNat 0 = mz at f1 f2 h7t ⊢
  repeat' contradiction
  refine ⟨_, rdi_l (by show (S4 p7).bind obL = _; rw [h7t]; rfl), ?_⟩
  refine lc_mp (fun x : Int => W.int (min (10 ^ 30) (l + x))) (by show rdI _ _ = _; exact rdi_l (by show (S4 p7).bind obL = _; rw [h7t]; rfl)) (le_line (by omega)) (fun x _ K hK => ?_) ?_
  · repeat' contradiction
    refine l_min2 fun z hz => ?_
    rw [show z = min (10 ^ 30) (l + x) by omega]
    exact hK
  obtain ⟨hl, hhl⟩ : ∃ hl, hl = mz.map fun x => min (10 ^ 30) (l + x) := ⟨_, rfl⟩
  rw [show (mz.map fun x : Int => W.int (min (10 ^ 30) (l + x))) = hl.map W.int by rw [hhl, List.map_map]; rfl]
  have g1 : hl.length = 2 * m := by rw [hhl, List.length_map, f1]
  have g2 : ∀ i, i < 2 * m → l ≤ hl.getD i 0 ∧ hl.getD i 0 ≤ 10 ^ 30 := fun i hi => by
    have hm := List.mem_of_getElem? (get_hr (show i < hl.length by omega))
    generalize hl.getD i 0 = z at hm ⊢
    rw [hhl] at hm
    obtain ⟨x, hx, rfl⟩ := List.mem_map.mp hm
    have := f2 x hx
    omega
  clear hhl
  repeat' contradiction
  obtain ⟨nf, hnf⟩ : ∃ nf : Nat → Str, nf = fun i => xs.getD i "" := ⟨_, rfl⟩
  obtain ⟨sf, hsf⟩ : ∃ sf : Nat → Str, sf = fun i => ys.getD i "" := ⟨_, rfl⟩
  obtain ⟨hf, hhf⟩ : ∃ hf : Nat → Int, hf = fun i => hl.getD i 0 := ⟨_, rfl⟩
  have aN : ∀ i, i < m → xs[i]? = some (nf i) := fun i hi => by rw [hnf]; exact get_nm (by omega)
  have aS : ∀ i, i < m → ys[i]? = some (sf i) := fun i hi => by rw [hsf]; exact get_nm (by omega)
  have aH : ∀ i, i < 2 * m → hl[i]? = some (hf i) := fun i hi => by rw [hhf]; exact get_hr (by omega)
  have m2 : 2 ≤ m := by omega
  refine rg1 (by omega) ?_
  rw [Int.toNat_natCast, rng_map]
  refine lc_mp (fun i : Nat => eO (nf i, sf i, hf (2 * i))) trivial (le_line (by rw [List.length_range]; omega)) (fun i hi K hK => ?_) ?_
  · have hi := List.mem_range.mp hi
    repeat' contradiction
    refine ix_map (by omega) (by rw [show (0 + (i : Int)).toNat = i by omega]; exact aN i hi) ?_
    repeat' contradiction
    refine ix_map (by omega) (by rw [show (0 + (i : Int)).toNat = i by omega]; exact aS i hi) ?_
    repeat' contradiction
    refine b_mul (mul_ok (by omega) (by omega)) ?_
    refine ix_map (by omega) (by rw [show (2 * (0 + (i : Int))).toNat = 2 * i by omega]; exact aH _ (by omega)) ?_
    repeat' contradiction
    exact hK
  rw [show ((List.range m).map fun i : Nat => eO (nf i, sf i, hf (2 * i))) = (rO nf sf hf m).map eO by rw [List.map_map]; rfl]
  repeat' contradiction
  refine rg1 (by omega) ?_
  rw [Int.toNat_natCast, rng_map]
  refine lc_mp (fun i : Nat => eO (nf (nx m i), sf i, hf (2 * i + 1))) trivial (le_line (by rw [List.length_range]; omega)) (fun i hi K hK => ?_) ?_
  · have hi := List.mem_range.mp hi
    repeat' contradiction
    refine ix_map (Int.emod_nonneg _ (by omega)) (by rw [nxI]; exact aN _ (nx_lt (by omega) i)) ?_
    repeat' contradiction
    refine ix_map (by omega) (by rw [show (0 + (i : Int)).toNat = i by omega]; exact aS i hi) ?_
    repeat' contradiction
    refine b_mul (mul_ok (by omega) (by omega)) ?_
    repeat' contradiction
    refine ix_map (by omega) (by rw [show (2 * (0 + (i : Int)) + 1).toNat = 2 * i + 1 by omega]; exact aH _ (by omega)) ?_
    repeat' contradiction
    exact hK
  rw [show ((List.range m).map fun i : Nat => eO (nf (nx m i), sf i, hf (2 * i + 1))) = (rU nf sf hf m).map eO by rw [List.map_map]; rfl]
  repeat' contradiction
  refine rg1 (by omega) ?_
  rw [Int.toNat_natCast, rng_map]
  refine lc_mp (fun i : Nat => eJ4 (nf i, nf (nx m i), sf i, l)) trivial (le_line (by rw [List.length_range]; omega)) (fun i hi K hK => ?_) ?_
  · have hi := List.mem_range.mp hi
    repeat' contradiction
    refine ix_map (by omega) (by rw [show (0 + (i : Int)).toNat = i by omega]; exact aN i hi) ?_
    repeat' contradiction
    refine ix_map (Int.emod_nonneg _ (by omega)) (by rw [nxI]; exact aN _ (nx_lt (by omega) i)) ?_
    repeat' contradiction
    refine ix_map (by omega) (by rw [show (0 + (i : Int)).toNat = i by omega]; exact aS i hi) ?_
    repeat' contradiction
    exact hK
  rw [show ((List.range m).map fun i : Nat => eJ4 (nf i, nf (nx m i), sf i, l)) = (rJ nf sf m l).map eJ4 by rw [List.map_map]; rfl]
  have hnm : town.map (·.1) = (List.range m).map nf := by rw [tn, hnf, ← x1]; exact map_nm xs
  have injN : ∀ i j, i < m → j < m → nf i = nf j → i = j := fun i j hi hj e => by rw [hnf] at e; exact inj_nm x2 (by omega) (by omega) e
  have injS : ∀ i j, i < m → j < m → sf i = sf j → i = j := fun i j hi hj e => by rw [hsf] at e; exact inj_nm y2 (by omega) (by omega) e
  have hD : DayOk town (rO nf sf hf m ++ rU nf sf hf m) := ring_day hnm hT m2 injN injS (fun i hi => y3 _ (List.mem_of_getElem? (aS i hi))) fun i hi => by have := g2 i hi; rw [hhf]; exact ⟨Int.le_trans l0 this.1, this.2⟩
  have hE : Ex town (rO nf sf hf m) (rU nf sf hf m) (rJ nf sf m l) := ring_ex hnm (fun x hx => (tp x hx).1) m2 injN injS l0 fun i hi => by rw [hhf]; exact (g2 i hi).1
  have lO : (rO nf sf hf m).length = m := by rw [List.length_map, List.length_range]
  have lU : (rU nf sf hf m).length = m := by rw [List.length_map, List.length_range]
  have lJ : (rJ nf sf m l).length = m := by rw [List.length_map, List.length_range]
  generalize rO nf sf hf m = os at hD hE lO ⊢
  generalize rU nf sf hf m = us at hD hE lU ⊢
  generalize rJ nf sf m l = js at hE lJ ⊢
  repeat' contradiction
  intro p hp
  rw [if_pos rfl]
  have npa : p ≠ a := ne_new hA2 hp
  have hp' : (putC S a (c + 1)) p = none := new_of hF2 hp
  have hpS : S p = none := (sup_ne npa).symm.trans hp'
  repeat' contradiction
  refine b_mul (mul_ok (by omega) (by omega)) ?_
  refine rg1 (by omega) ?_
  refine for_rng (fun i ρ S' => ∃ (kvs : List (List Key × W)) (pr : Int) (r15 r16 r17 : Option W), ρ = [some (iL ns), some (.ref a), some (.int (m : Nat)), some (.lst (town.map eN)), some (.lst (xs.map W.str)), some (.lst (ys.map W.str)), some (.int l), some (.ref p7), some (.int sp), some (.lst (hl.map W.int)), some (.lst (os.map eO)), some (.lst (us.map eO)), some (.lst (js.map eJ4)), some (.ref p), some (.int pr), r15, r16, r17, none, none, none, none] ∧
      S' = sup S4 p (.dt kvs) ∧ kvs.length ≤ i)
    ⟨[], 0, _, _, _, rfl, rfl, Nat.le_refl _⟩ (fun _ _ _ _ => trivial) (fun i ρ S' hi h K hK => ?_) (fun ρ S' h => ?_)
  · obtain ⟨kvs, pr, r15, r16, r17, rfl, rfl, kl⟩ := h
    have hi : i < 2 * m := by omega
    repeat' contradiction
    refine b_mul (mul_ok (by omega) (by omega)) ?_
    refine b_mod (by omega) ?_
    have q0 := Int.emod_nonneg (sp + 1 + (0 + (i : Int))) (show (2 * (m : Int)) ≠ 0 by omega)
    have q1 := Int.emod_lt_of_pos (sp + 1 + (0 + (i : Int))) (show (0 : Int) < 2 * (m : Int) by omega)
    generalize (sp + 1 + (0 + (i : Int))) % (2 * (m : Int)) = pl at q0 q1 ⊢
    have half : (pl / 2).toNat < m := by omega
    repeat' contradiction
    refine MP.ite_d (fun c1 => ?_) (fun c1 => ?_)
    · repeat' contradiction
      refine b_div (div_ok (by decide) (by decide)) ?_
      refine ix_map (by omega) (aS _ half) ?_
      repeat' contradiction
      refine st_dt sup_same (k := [.inr "skill", .inr (sf (pl / 2).toNat)]) rfl (lt_line (by omega)) ?_
      rw [sup_sup]
      repeat' contradiction
      refine hK _ _ ⟨_, _, _, _, _, rfl, rfl, ?_⟩
      have := set_len (kvs := kvs) (k := [.inr "skill", .inr (sf (pl / 2).toNat)]) (v := W.int pr)
      omega
    · repeat' contradiction
      refine b_div (div_ok (by decide) (by decide)) ?_
      refine ix_map (by omega) (aN _ half) ?_
      repeat' contradiction
      refine st_dt sup_same (k := [.inr "name", .inr (nf (pl / 2).toNat)]) rfl (lt_line (by omega)) ?_
      rw [sup_sup]
      repeat' contradiction
      refine hK _ _ ⟨_, _, _, _, _, rfl, rfl, ?_⟩
      have := set_len (kvs := kvs) (k := [.inr "name", .inr (nf (pl / 2).toNat)]) (v := W.int pr)
      omega
  · obtain ⟨kvs, pr, r15, r16, r17, rfl, rfl, kl⟩ := h
    repeat' contradiction
    refine d_ret (fewer_put hF2) (q town os us js (c + 1) p kvs hT hD (by omega) (by omega) hE (by omega) (by omega) (by omega) hpS)
end K07

set_option Elab.async false
set_option linter.all false
set_option maxRecDepth 100000
set_option maxHeartbeats 4000000
/-! K07t: the law. -/
namespace K07
open PySem PySem.Spec PyProof.Rows L2 MP NM DK LF LG LH LI BD EX EY EZ ST DU
local macro_rules
  | `(tactic| contradiction) => `(tactic| first | with_reducible refine d_in ?_ | with_reducible refine s_nil ?_ | with_reducible refine s_seq ?_ | with_reducible refine s_asg ?_ | with_reducible refine s_par ?_ | with_reducible refine s_expr ?_ | with_reducible refine s_ret ?_ | with_reducible refine s_retN ?_ | with_reducible refine s_iff ?_ | with_reducible refine s_fr ?_ | with_reducible refine s_cont ?_ | with_reducible refine s_brk ?_ | with_reducible refine s_pass ?_ | with_reducible refine s_augS ?_ | with_reducible refine e_int ?_ | with_reducible refine e_str ?_ | with_reducible refine e_bool ?_ | with_reducible refine e_none ?_ | with_reducible refine e_bin ?_ | with_reducible refine e_neg ?_ | with_reducible refine e_nt ?_ | with_reducible refine e_cmp ?_ | with_reducible refine e_chain ?_ | with_reducible refine e_an ?_ | with_reducible refine e_or ?_ | with_reducible refine an_1 ?_ | with_reducible refine an_2 ?_ | with_reducible refine or_1 ?_ | with_reducible refine or_2 ?_ | with_reducible refine e_ife ?_ | with_reducible refine e_call ?_ | with_reducible refine e_blt ?_ | with_reducible refine e_mth ?_ | with_reducible refine e_idx ?_ | with_reducible refine e_slc ?_ | with_reducible refine e_rev ?_ | with_reducible refine e_tup ?_ | with_reducible refine e_lst ?_ | with_reducible refine e_dnew ?_ | with_reducible refine e_dct ?_ | with_reducible refine e_isi ?_ | with_reducible refine e_lrg ?_ | with_reducible refine e_lzip ?_ | with_reducible refine e_stp ?_ | with_reducible refine e_sset ?_ | with_reducible refine es_n ?_ | with_reducible refine es_c ?_ | with_reducible refine o_nil ?_ | with_reducible refine o_var ?_ | with_reducible refine o_cst ?_ | with_reducible refine o_bin ?_ | with_reducible refine o_neg ?_ | with_reducible refine o_blt ?_ | with_reducible refine o_call ?_ | with_reducible refine ik ?_ | with_reducible refine ng ?_ | with_reducible refine tq_bl ?_ | with_reducible refine tq_int ?_ | with_reducible refine tq_non ?_ | with_reducible refine tq_lst ?_ | with_reducible refine tq_tup ?_ | with_reducible refine t_var ?_ | with_reducible refine t_call ?_ | with_reducible refine t_blt ?_ | with_reducible refine t_mth ?_ | with_reducible refine t_idx ?_ | with_reducible refine t_isi ?_ | with_reducible refine t_cst ?_ | with_reducible refine t_nt ?_ | with_reducible refine t_cmp ?_ | with_reducible refine t_chain ?_ | with_reducible refine t_an ?_ | with_reducible refine t_or ?_ | with_reducible refine ant_1 ?_ | with_reducible refine ant_2 ?_ | with_reducible refine ort_1 ?_ | with_reducible refine ort_2 ?_ | with_reducible refine tr_bl ?_ | with_reducible refine tr_int ?_ | with_reducible refine tr_lst ?_ | with_reducible refine tr_non ?_ | with_reducible refine c_nil ?_ | with_reducible refine c_one ?_ | with_reducible refine g_sub ?_ | with_reducible refine gs_n ?_ | with_reducible refine gs_c ?_ | with_reducible refine i_seq ?_ | with_reducible refine i_rng1 ?_ | with_reducible refine i_rng2 ?_ | with_reducible refine i_rng3 ?_ | with_reducible refine i_zip ?_ | with_reducible refine i_enm ?_ | with_reducible refine b_add ?_ | with_reducible refine b_sub ?_ | with_reducible refine c_lt ?_ | with_reducible refine c_le ?_ | with_reducible refine c_gt ?_ | with_reducible refine c_ge ?_ | with_reducible refine mk_f ?_ | with_reducible refine ref_and ?_ | with_reducible refine u_set ?_ | with_reducible refine eq_i ?_ | with_reducible refine ne_i ?_ | with_reducible refine eq_b ?_ | with_reducible refine ne_b ?_ | with_reducible refine is_b ?_ | with_reducible refine isn_b ?_ | with_reducible refine is_n ?_ | with_reducible refine isn_n ?_ | with_reducible refine e_v0 ?_ | with_reducible refine g_v0 ?_ | with_reducible refine s_u0 ?_ | with_reducible refine e_v1 ?_ | with_reducible refine g_v1 ?_ | with_reducible refine s_u1 ?_ | with_reducible refine e_v2 ?_ | with_reducible refine g_v2 ?_ | with_reducible refine s_u2 ?_ | with_reducible refine e_v3 ?_ | with_reducible refine g_v3 ?_ | with_reducible refine s_u3 ?_ | with_reducible refine e_v4 ?_ | with_reducible refine g_v4 ?_ | with_reducible refine s_u4 ?_ | with_reducible refine e_v5 ?_ | with_reducible refine g_v5 ?_ | with_reducible refine s_u5 ?_ | with_reducible refine e_v6 ?_ | with_reducible refine g_v6 ?_ | with_reducible refine s_u6 ?_ | with_reducible refine e_v7 ?_ | with_reducible refine g_v7 ?_ | with_reducible refine s_u7 ?_ | with_reducible refine e_v8 ?_ | with_reducible refine g_v8 ?_ | with_reducible refine s_u8 ?_ | with_reducible refine e_v9 ?_ | with_reducible refine g_v9 ?_ | with_reducible refine s_u9 ?_ | with_reducible refine e_v10 ?_ | with_reducible refine g_v10 ?_ | with_reducible refine s_u10 ?_ | with_reducible refine e_v11 ?_ | with_reducible refine g_v11 ?_ | with_reducible refine s_u11 ?_ | with_reducible refine e_v12 ?_ | with_reducible refine g_v12 ?_ | with_reducible refine s_u12 ?_ | with_reducible refine e_v13 ?_ | with_reducible refine g_v13 ?_ | with_reducible refine s_u13 ?_ | with_reducible refine e_v14 ?_ | with_reducible refine g_v14 ?_ | with_reducible refine s_u14 ?_ | with_reducible refine e_v15 ?_ | with_reducible refine g_v15 ?_ | with_reducible refine s_u15 ?_ | with_reducible refine e_v16 ?_ | with_reducible refine g_v16 ?_ | with_reducible refine s_u16 ?_ | with_reducible refine e_v17 ?_ | with_reducible refine g_v17 ?_ | with_reducible refine s_u17 ?_ | with_reducible refine e_v18 ?_ | with_reducible refine g_v18 ?_ | with_reducible refine s_u18 ?_ | with_reducible refine e_v19 ?_ | with_reducible refine g_v19 ?_ | with_reducible refine s_u19 ?_ | ((with_reducible refine e_lc' (ρ' := ?rr) ?hw ?_); (case hw => (dsimp only [wipeW, List.map, List.set]; exact rfl))) | ((with_reducible refine g_tup ?hl ?_); (case hl => exact rfl)) | with_reducible refine b_mod (by first | decide | omega) ?_ | ((with_reducible refine b_pow (pow_ok (by decide) (by decide) (by decide)) ?_); simp only [Int.reduceToNat, Int.reducePow]) | with_reducible refine le_and (by simp only [List.length_cons, List.length_nil]; decide) ?_ | with_reducible refine l_intB ?_ | with_reducible refine l_intI ?_ | with_reducible refine sl_f ?_ | (refine l_len (by exact rfl) (q := ?_); skip) | (refine l_list (by exact rfl) ?_; skip) | (refine ix_t (by exact rfl) ?_; skip))

def Phi : Nat → MP.Spec
  | 0 => EX.spIsName
  | 1 => EY.spIsRow
  | 2 => EY.spIsJob
  | 3 => EZ.spEx
  | 4 => EY.spMoved
  | 5 => BD.spBound
  | 6 => LF.spDraw
  | 7 => LF.spNames
  | 8 => LF.spHours
  | 9 => LG.spTown
  | 10 => LH.spDay
  | 11 => LG.spSkills
  | 12 => LI.spPrices
  | 13 => spIsL
  | 14 => spPairs
  | 15 => spJobs
  | 16 => spRing
  | 17 => lawSpec 63
  | _ => fun _ _ _ _ => False
theorem p0 : Phi 0 = EX.spIsName := rfl
theorem p1 : Phi 1 = EY.spIsRow := rfl
theorem p2 : Phi 2 = EY.spIsJob := rfl
theorem p3 : Phi 3 = EZ.spEx := rfl
theorem p4 : Phi 4 = EY.spMoved := rfl
theorem p5 : Phi 5 = BD.spBound := rfl
theorem p6 : Phi 6 = LF.spDraw := rfl
theorem p7 : Phi 7 = LF.spNames := rfl
theorem p8 : Phi 8 = LF.spHours := rfl
theorem p9 : Phi 9 = LG.spTown := rfl
theorem p10 : Phi 10 = LH.spDay := rfl
theorem p11 : Phi 11 = LG.spSkills := rfl
theorem p12 : Phi 12 = LI.spPrices := rfl
theorem p13 : Phi 13 = spIsL := rfl
theorem p14 : Phi 14 = spPairs := rfl
theorem p15 : Phi 15 = spJobs := rfl
theorem p16 : Phi 16 = spRing := rfl
theorem len0 : ∀ ws S Q X, Phi 0 ws S Q X → ws.length = P0.length := by rintro _ _ _ _ ⟨_, _, rfl, _⟩; rfl
theorem len1 : ∀ ws S Q X, Phi 1 ws S Q X → ws.length = P1.length := by rintro _ _ _ _ ⟨_, _, _, rfl, _⟩; rfl
theorem len2 : ∀ ws S Q X, Phi 2 ws S Q X → ws.length = P2.length := by rintro _ _ _ _ ⟨_, _, _, _, _, _, _, rfl, _⟩; rfl
theorem len3 : ∀ ws S Q X, Phi 3 ws S Q X → ws.length = P3.length := by rintro _ _ _ _ ⟨_, _, _, _, rfl, _⟩; rfl
theorem len4 : ∀ ws S Q X, Phi 4 ws S Q X → ws.length = P4.length := by rintro _ _ _ _ ⟨_, rfl, _⟩; rfl
theorem len5 : ∀ ws S Q X, Phi 5 ws S Q X → ws.length = P5.length := by rintro _ _ _ _ ⟨_, _, _, _, _, rfl, _⟩; rfl
theorem len6 : ∀ ws S Q X, Phi 6 ws S Q X → ws.length = P6.length := by rintro _ _ _ _ ⟨_, _, _, _, rfl, _⟩; rfl
theorem len7 : ∀ ws S Q X, Phi 7 ws S Q X → ws.length = P7.length := by rintro _ _ _ _ ⟨_, _, _, _, rfl, _⟩; rfl
theorem len8 : ∀ ws S Q X, Phi 8 ws S Q X → ws.length = P8.length := by rintro _ _ _ _ ⟨_, _, _, rfl, _⟩; rfl
theorem len9 : ∀ ws S Q X, Phi 9 ws S Q X → ws.length = P9.length := by rintro _ _ _ _ ⟨_, _, _, _, rfl, _⟩; rfl
theorem len10 : ∀ ws S Q X, Phi 10 ws S Q X → ws.length = P10.length := by rintro _ _ _ _ ⟨_, _, _, _, _, rfl, _⟩; rfl
theorem len11 : ∀ ws S Q X, Phi 11 ws S Q X → ws.length = P11.length := by rintro _ _ _ _ ⟨_, _, rfl, _⟩; rfl
theorem len12 : ∀ ws S Q X, Phi 12 ws S Q X → ws.length = P12.length := by rintro _ _ _ _ ⟨_, _, _, _, _, _, rfl, _⟩; rfl
theorem len13 : ∀ ws S Q X, Phi 13 ws S Q X → ws.length = P13.length := by rintro _ _ _ _ ⟨_, _, _, _, rfl, _⟩; rfl
theorem len14 : ∀ ws S Q X, Phi 14 ws S Q X → ws.length = P14.length := by rintro _ _ _ _ ⟨_, _, rfl, _⟩; rfl
theorem len15 : ∀ ws S Q X, Phi 15 ws S Q X → ws.length = P15.length := by rintro _ _ _ _ ⟨_, _, _, _, _, _, rfl, _⟩; rfl
theorem len16 : ∀ ws S Q X, Phi 16 ws S Q X → ws.length = P16.length := by rintro _ _ _ _ ⟨_, _, _, rfl, _⟩; rfl
theorem len17 : ∀ ws S Q X, Phi 17 ws S Q X → ws.length = P17.length := by rintro _ _ _ _ ⟨_, rfl, _⟩; rfl
theorem ok0 : ∀ ws S Q X, Phi 0 ws S Q X → wps Phi c0 (startW N0 ws) S (dEnds Q XN) := fun _ _ _ X h => EX.ok_is_name (X := X) h
theorem ok1 : ∀ ws S Q X, Phi 1 ws S Q X → wps Phi c1 (startW N1 ws) S (dEnds Q XN) := fun _ _ _ X h => EY.ok_is_row (X := X) h
theorem ok2 : ∀ ws S Q X, Phi 2 ws S Q X → wps Phi c2 (startW N2 ws) S (dEnds Q XN) := fun _ _ _ X h => EY.ok_is_job (X := X) rfl rfl h
theorem ok3 : ∀ ws S Q X, Phi 3 ws S Q X → wps Phi c3 (startW N3 ws) S (dEnds Q XN) := fun _ _ _ X h => EZ.ok_is_exchange (X := X) rfl h
theorem ok4 : ∀ ws S Q X, Phi 4 ws S Q X → wps Phi c4 (startW N4 ws) S (dEnds Q XN) := fun _ _ _ X h => EY.ok_moved (X := X) h
theorem ok5 : ∀ ws S Q X, Phi 5 ws S Q X → wps Phi c5 (startW N5 ws) S (dEnds Q XN) := fun _ _ _ X h => BD.ok_bound (X := X) h
theorem ok6 : ∀ ws S Q X, Phi 6 ws S Q X → wps Phi c6 (startW N6 ws) S (dEnds Q XN) := fun _ _ _ X h => LF.ok_draw (X := X) h
theorem ok7 : ∀ ws S Q X, Phi 7 ws S Q X → wps Phi c7 (startW N7 ws) S (dEnds Q XN) := fun _ _ _ X h => LF.ok_names (X := X) rfl h
theorem ok8 : ∀ ws S Q X, Phi 8 ws S Q X → wps Phi c8 (startW N8 ws) S (dEnds Q XN) := fun _ _ _ X h => LF.ok_hours (X := X) rfl h
theorem ok9 : ∀ ws S Q X, Phi 9 ws S Q X → wps Phi c9 (startW N9 ws) S (dEnds Q XN) := fun _ _ _ X h => LG.ok_town (X := X) rfl rfl rfl h
theorem ok10 : ∀ ws S Q X, Phi 10 ws S Q X → wps Phi c10 (startW N10 ws) S (dEnds Q XN) := fun _ _ _ X h => LH.ok_day (X := X) rfl rfl rfl h
theorem ok11 : ∀ ws S Q X, Phi 11 ws S Q X → wps Phi c11 (startW N11 ws) S (dEnds Q XN) := fun _ _ _ X h => LG.ok_skills (X := X) h
theorem ok12 : ∀ ws S Q X, Phi 12 ws S Q X → wps Phi c12 (startW N12 ws) S (dEnds Q XN) := fun _ _ _ X h => LI.ok_prices (X := X) rfl rfl h
theorem ok13 : ∀ ws S Q X, Phi 13 ws S Q X → wps Phi c13 (startW N13 ws) S (dEnds Q XN) := fun _ _ _ X h => ok_isL (X := X) h
theorem ok14 : ∀ ws S Q X, Phi 14 ws S Q X → wps Phi c14 (startW N14 ws) S (dEnds Q XN) := fun _ _ _ X h => ok_pairs (X := X) h
theorem ok15 : ∀ ws S Q X, Phi 15 ws S Q X → wps Phi c15 (startW N15 ws) S (dEnds Q XN) := fun _ _ _ X h => ok_jobs (X := X) rfl rfl rfl h
theorem ok16 : ∀ ws S Q X, Phi 16 ws S Q X → wps Phi c16 (startW N16 ws) S (dEnds Q XN) := fun _ _ _ X h => ok_ring (X := X) rfl rfl rfl h

def rest : CS := (.seq (.iff (.or (.cons (.nt (.call 13 (.cons (.var 4) (.cons (.var 5) (.cons (.var 6) .nil))))) (.cons (.cmp .IsNot (.call 3 (.cons (.var 4) (.cons (.var 5) (.cons (.var 6) .nil)))) (.cst (.bool true))) .nil))) (.seq (.ret (.cst (.bool false))) .nil) .nil) (.seq (.asg (.tnm 3) (.blt .sum false (.cons (.lc false [("_law_job", 9)] (.tnm 9) (.iseq (.var 6)) .nil (.idx (.var 9) (.cst (.int 3)))) .nil))) (.seq (.iff (.cmp .NotEq (.call 4 (.cons (.var 6) .nil)) (.var 3)) (.seq (.ret (.cst (.bool false))) .nil) .nil) (.seq (.fr (.tnm 7) (.irng1 (.cst (.int 2))) (.seq (.iff (.cmp .Lt (.call 5 (.cons (.var 4) (.cons (.var 5) (.cons (.call 12 (.cons (.var 0) (.cons (.var 1) (.cons (.var 4) (.cons (.var 5) .nil))))) .nil)))) (.var 3)) (.seq (.ret (.cst (.bool false))) .nil) .nil) .nil)) .nil))))
theorem ok_rest {ns : List Int} {a : Addr} {c : Int} {r2 r3 r7 r8 : Option W} {town : List Nb} {os us : List En} {js : List J4} {S : Sto} {nx bk ct : MP.Env → Sto → Prop} {rt : WK} {xc : XC} (hn : ns.length ≤ 63) (hA : S a = some (.lst [.int c])) (c0 : 0 ≤ c) (c9 : c ≤ 900000000)
    (hT : TownOk town) (hD : DayOk town (os ++ us)) (hl : town.length ≤ 12) (hl2 : os.length + us.length ≤ 40) (hE : Ex town os us js) (hj : js.length ≤ 240)
    (q : ∀ r3 r7 c' S', S' a = some (.lst [.int c']) → c ≤ c' → c' ≤ c + 1000 → nx [some (iL ns), some (.ref a), r2, r3, some (.lst (town.map eN)), some (.tup [.lst (os.map eO), .lst (us.map eO)]), some (.lst (js.map eJ4)), r7, r8, none] S') :
    wps Phi rest [some (iL ns), some (.ref a), r2, r3, some (.lst (town.map eN)), some (.tup [.lst (os.map eO), .lst (us.map eO)]), some (.lst (js.map eJ4)), r7, r8, none] S ⟨nx, rt, bk, ct, xc⟩ := by
  have nmk : ∀ x ∈ os ++ us, EnOk x := fun x hx => by
    obtain ⟨y, hy, e⟩ := List.mem_map.mp (hD.nm x hx)
    exact ⟨by rw [← e]; exact hT.nm y hy, hD.sk x hx⟩
  have jok : ∀ j ∈ js, Nme j.1 ∧ Nme j.2.1 ∧ Nme j.2.2.1 := fun j hj => by
    obtain ⟨_, b1, b2⟩ := hE.job j hj
    obtain ⟨x, hx, e⟩ := List.mem_map.mp b1
    obtain ⟨y, hy, e'⟩ := List.mem_map.mp b2
    have n1 := nmk x (List.mem_append.mpr (.inl hx))
    have n2 := nmk y (List.mem_append.mpr (.inr hy))
    have f1 : x.1 = j.1 := congrArg (·.1) e
    have f2 : x.2.1 = j.2.2.1 := congrArg (·.2) e
    have f3 : y.1 = j.2.1 := congrArg (·.1) e'
    exact ⟨f1 ▸ n1.1, f3 ▸ n2.1, f2 ▸ n1.2⟩
  have hJ : JJ 256 (.lst (js.map eJ4)) := ⟨(fun a e => nomatch e), fun ws e => by
    injection e with e
    rw [← e]
    refine ⟨by rw [List.length_map]; omega, fun w hw => ?_⟩
    obtain ⟨j, hj, rfl⟩ := List.mem_map.mp hw
    obtain ⟨n1, n2, n3⟩ := jok j hj
    refine ⟨(fun a e => nomatch e), fun us e => ?_⟩
    injection e with e
    rw [← e]
    refine ⟨by simp, fun u hu => ?_⟩
    simp only [List.mem_cons, List.not_mem_nil, or_false] at hu
    have st : ∀ {x : Str}, Nme x → flatW (.str x) = true ∧ ∀ y, W.str x = .str y → y.length ≤ 1000 := fun {x} h => ⟨rfl, fun y e => by
      injection e with e
      have := h.nm.len
      rw [← e]; omega⟩
    rcases hu with rfl | rfl | rfl | rfl
    · exact st n1
    · exact st n2
    · exact st n3
    · exact ⟨rfl, fun _ e => nomatch e⟩⟩
  unfold rest
  repeat' contradiction
  rw [p13]
  refine ⟨town, os, us, js, rfl, hT, hD, hl, hl2, by omega, hE, ?_⟩
  repeat' contradiction
  refine iteF' rfl ?_
  repeat' contradiction
  rw [p3]
  refine ⟨town, os, us, .lst (js.map eJ4), rfl, hT, hD, hl, hl2, hJ, fun b hb => ?_⟩
  obtain rfl : b = true := hb.mpr ⟨js, rfl, hE⟩
  repeat' contradiction
  refine iteF' rfl ?_
  repeat' contradiction
  refine ⟨_, rfl, ?_⟩
  refine lc_mp (fun j : J4 => W.int j.2.2.2) rfl (le_line (by omega)) (fun j _ K hK => ?_) ?_
  · repeat' contradiction
    exact hK
  repeat' contradiction
  refine l_sum (ns := js.map fun j => j.2.2.2) (by rw [List.map_map]; rfl) ?_
  repeat' contradiction
  rw [p4]
  refine ⟨js, rfl, by omega, ?_⟩
  repeat' contradiction
  refine iteF' (by simp) ?_
  repeat' contradiction
  refine rg1 (by decide) ?_
  refine for_rng (fun i ρ S' => ∃ (r7 : Option W) (c' : Int), ρ = [some (iL ns), some (.ref a), r2, some (.int (js.map fun j => j.2.2.2).sum), some (.lst (town.map eN)), some (.tup [.lst (os.map eO), .lst (us.map eO)]), some (.lst (js.map eJ4)), r7, r8, none] ∧ S' a = some (.lst [.int c']) ∧ c ≤ c' ∧ c' ≤ c + 500 * i)
    ⟨_, c, rfl, hA, Int.le_refl _, by omega⟩ (fun _ _ _ _ => trivial) (fun i ρ S' hi h K hK => ?_) (fun ρ S' h => ?_)
  · obtain ⟨r7, c', rfl, hA', k1, k2⟩ := h
    have hi : i < 2 := hi
    repeat' contradiction
    rw [p12]
    refine ⟨ns, a, c', town, os, us, rfl, hn, ⟨hA', by omega, by omega⟩, hT, hl, hD, hl2, fun p kis k4 hp hP t7 t8 => ?_⟩
    have hpa : p ≠ a := ne_new hA' hp
    repeat' contradiction
    rw [p5]
    refine ⟨town, os, us, p, kis, rfl, sup_same, hT, hD, hP, ?_⟩
    have du := dual hT hD hE kis
    repeat' contradiction
    refine iteF' (decide_eq_false (by omega)) ?_
    repeat' contradiction
    exact hK _ _ ⟨_, k4, rfl, (sup_ne hpa.symm).trans sup_same, by omega, by omega⟩
  · obtain ⟨r7, c', rfl, hA', k1, k2⟩ := h
    repeat' contradiction
    exact q _ _ c' S' hA' k1 (by omega)
theorem ok17 : ∀ ws S Q X, Phi 17 ws S Q X → wps Phi c17 (startW N17 ws) S (dEnds Q XN) := by
  rintro ws S Q X ⟨ns, rfl, hn, rfl, q⟩
  unfold c17
  show wps Phi _ [some (iL ns), none, none, none, none, none, none, none, none, none] S00 (dEnds Q XN)
  repeat' contradiction
  refine mk_t fun a ha => ?_
  repeat' contradiction
  rw [List.length_map]
  refine l_max2 fun mm hmm => ?_
  repeat' contradiction
  refine rg1 (by omega) ?_
  refine for_rng (fun i ρ S' => ∃ (k' : Int) (r2 r3 r4 r5 r6 r7 r8 : Option W), ρ = [some (iL ns), some (.ref a), r2, r3, r4, r5, r6, r7, r8, none] ∧ S' a = some (.lst [.int k']) ∧ 0 ≤ k' ∧ k' ≤ 5000 * i)
    ⟨0, _, _, _, _, _, _, _, rfl, sup_same, by omega, by omega⟩ (fun _ _ _ _ => trivial) (fun i ρ S' hi h K hK => ?_) (fun ρ S' h => ?_)
  · obtain ⟨k', r2, r3, r4, r5, r6, r7, r8, rfl, hA, e1, e2⟩ := h
    have hi : i < 64 := by omega
    repeat' contradiction
    rw [p6]
    refine u_draw hn hA e1 (by omega) (by decide) (by decide) rfl fun d d0 d1 => ?_
    repeat' contradiction
    refine ix_pick (P := fun w => ∃ m : Nat, w = .int (m : Nat) ∧ m ≤ 12) d0 d1 (by
      simp only [List.forall_mem_cons]
      exact ⟨⟨2, rfl, by decide⟩, ⟨4, rfl, by decide⟩, ⟨12, rfl, by decide⟩, fun _ h => nomatch h⟩) fun w hw => ?_
    obtain ⟨m, rfl, hm⟩ := hw
    repeat' contradiction
    rw [p9]
    refine ⟨ns, a, k' + 1, m, rfl, hn, ⟨sup_same, by omega, by omega⟩, hm, fun town k2 t1 hT t3 t4 => ?_⟩
    rw [show putC (putC S' a (k' + 1)) a k2 = putC S' a k2 from sup_sup]
    have hl : town.length ≤ 12 := by omega
    repeat' contradiction
    rw [p6]
    refine u_draw hn sup_same (by omega) (by omega) (by decide) (by decide) sup_sup fun d2 d20 d21 => ?_
    refine ix_pick (P := fun w => ∃ m : Nat, w = .int (m : Nat) ∧ m ≤ 40) d20 d21 (by
      simp only [List.forall_mem_cons]
      exact ⟨⟨4, rfl, by decide⟩, ⟨12, rfl, by decide⟩, ⟨40, rfl, by decide⟩, fun _ h => nomatch h⟩) fun w hw => ?_
    obtain ⟨m2, rfl, hm2⟩ := hw
    repeat' contradiction
    rw [p10]
    refine ⟨ns, a, k2 + 1, town, m2, rfl, hn, ⟨sup_same, by omega, by omega⟩, hm2, hT, hl, fun os us k3 hD hl2 t5 t6 => ?_⟩
    rw [show putC (putC S' a (k2 + 1)) a k3 = putC S' a k3 from sup_sup]
    repeat' contradiction
    rw [p15]
    refine ⟨ns, a, k3, town, os, us, rfl, hn, ⟨sup_same, by omega, by omega⟩, hT, hD, hl, by omega, fun js k4 hE hj t7 t8 => ?_⟩
    rw [show putC (putC S' a k3) a k4 = putC S' a k4 from sup_sup]
    repeat' contradiction
    rw [p6]
    refine u_draw hn sup_same (by omega) (by omega) (by decide) (by decide) sup_sup fun d3 d30 d31 => ?_
    repeat' contradiction
    refine MP.ite_d (fun c1 => ?_) (fun c1 => ?_)
    · repeat' contradiction
      rw [p16]
      refine ⟨ns, a, k4 + 1, rfl, hn, ⟨sup_same, by omega, by omega⟩, fun town os us js k5 p kvs hT hD hl hl2 hE hj t9 t10 hp => ?_⟩
      have hpa : p ≠ a := ne_new sup_same hp
      rw [show putC (putC S' a (k4 + 1)) a k5 = putC S' a k5 from sup_sup]
      refine g_tup rfl ?_
      refine gs_c ?_
      refine g_v4 ?_
      refine gs_c ?_
      refine g_v5 ?_
      refine gs_c ?_
      refine g_v6 ?_
      refine gs_c ?_
      refine g_v8 ?_
      refine gs_n ?_
      refine s_nil ?_
      exact ok_rest hn ((sup_ne hpa.symm).trans sup_same) (by omega) (by omega) hT hD hl hl2 hE hj fun r3 r7 c' S2 hA2 u1 u2 => by
        repeat' contradiction
        exact hK _ _ ⟨c', _, _, _, _, _, _, _, rfl, hA2, by omega, by omega⟩
    · refine s_nil ?_
      exact ok_rest hn sup_same (by omega) (by omega) hT hD hl (by omega) hE hj fun r3 r7 c' S2 hA2 u1 u2 => by
        repeat' contradiction
        exact hK _ _ ⟨c', _, _, _, _, _, _, _, rfl, hA2, by omega, by omega⟩
  · obtain ⟨k', r2, r3, r4, r5, r6, r7, r8, rfl, hA, e1, e2⟩ := h
    repeat' contradiction
    exact d_ret (fun _ _ h => (by cases h)) q
end K07

set_option Elab.async false
set_option linter.all false
set_option maxRecDepth 100000
set_option maxHeartbeats 4000000
namespace K07
open PySem PySem.Spec PyProof.Rows L2 MP
theorem all_mk {l : PySem.W.OpenLaw} {w : World} {K : PySem.W.Frag} {h : Heap} {mg : Str → Option Value} {fa : Addr} (X : K.In h) (G : h.Ns mainGlobals mg) (hfa : mg "law" = some (.ref fa))
    {f0 : Addr} {od0 an0 : Option Addr} {sl0 : Array (Option Value)} {oc0 kV0 dc0 pm0 cd0 ct0 : Value}
    (a0 : PySem.W.nsIn K mainGlobals "is_name" = some (some (.ref f0)))
    (l0 : K.lookup f0 = some ⟨oc0, od0, .func (PySem.W.fnOf "is_name" "is_name" (defArgs st0) (defBody st0) (defScope st0) .none kV0 dc0 pm0 an0 cd0 ct0), sl0⟩)
    (d0 : PySem.W.codeIn K cd0 "is_name" = true) (e0 : PySem.W.keepIn K (.ref f0) = true)
    {f1 : Addr} {od1 an1 : Option Addr} {sl1 : Array (Option Value)} {oc1 kV1 dc1 pm1 cd1 ct1 : Value}
    (a1 : PySem.W.nsIn K mainGlobals "is_row" = some (some (.ref f1)))
    (l1 : K.lookup f1 = some ⟨oc1, od1, .func (PySem.W.fnOf "is_row" "is_row" (defArgs st1) (defBody st1) (defScope st1) .none kV1 dc1 pm1 an1 cd1 ct1), sl1⟩)
    (d1 : PySem.W.codeIn K cd1 "is_row" = true) (e1 : PySem.W.keepIn K (.ref f1) = true)
    {f2 : Addr} {od2 an2 : Option Addr} {sl2 : Array (Option Value)} {oc2 kV2 dc2 pm2 cd2 ct2 : Value}
    (a2 : PySem.W.nsIn K mainGlobals "is_job" = some (some (.ref f2)))
    (l2 : K.lookup f2 = some ⟨oc2, od2, .func (PySem.W.fnOf "is_job" "is_job" (defArgs st2) (defBody st2) (defScope st2) .none kV2 dc2 pm2 an2 cd2 ct2), sl2⟩)
    (d2 : PySem.W.codeIn K cd2 "is_job" = true) (e2 : PySem.W.keepIn K (.ref f2) = true)
    {f3 : Addr} {od3 an3 : Option Addr} {sl3 : Array (Option Value)} {oc3 kV3 dc3 pm3 cd3 ct3 : Value}
    (a3 : PySem.W.nsIn K mainGlobals "is_exchange" = some (some (.ref f3)))
    (l3 : K.lookup f3 = some ⟨oc3, od3, .func (PySem.W.fnOf "is_exchange" "is_exchange" (defArgs st3) (defBody st3) (defScope st3) .none kV3 dc3 pm3 an3 cd3 ct3), sl3⟩)
    (d3 : PySem.W.codeIn K cd3 "is_exchange" = true) (e3 : PySem.W.keepIn K (.ref f3) = true)
    {f4 : Addr} {od4 an4 : Option Addr} {sl4 : Array (Option Value)} {oc4 kV4 dc4 pm4 cd4 ct4 : Value}
    (a4 : PySem.W.nsIn K mainGlobals "moved" = some (some (.ref f4)))
    (l4 : K.lookup f4 = some ⟨oc4, od4, .func (PySem.W.fnOf "moved" "moved" (defArgs st4) (defBody st4) (defScope st4) .none kV4 dc4 pm4 an4 cd4 ct4), sl4⟩)
    (d4 : PySem.W.codeIn K cd4 "moved" = true) (e4 : PySem.W.keepIn K (.ref f4) = true)
    {f5 : Addr} {od5 an5 : Option Addr} {sl5 : Array (Option Value)} {oc5 kV5 dc5 pm5 cd5 ct5 : Value}
    (a5 : PySem.W.nsIn K mainGlobals "bound" = some (some (.ref f5)))
    (l5 : K.lookup f5 = some ⟨oc5, od5, .func (PySem.W.fnOf "bound" "bound" (defArgs st5) (defBody st5) (defScope st5) .none kV5 dc5 pm5 an5 cd5 ct5), sl5⟩)
    (d5 : PySem.W.codeIn K cd5 "bound" = true) (e5 : PySem.W.keepIn K (.ref f5) = true)
    {f6 : Addr} {od6 an6 : Option Addr} {sl6 : Array (Option Value)} {oc6 kV6 dc6 pm6 cd6 ct6 : Value}
    (a6 : PySem.W.nsIn K mainGlobals "_law_draw" = some (some (.ref f6)))
    (l6 : K.lookup f6 = some ⟨oc6, od6, .func (PySem.W.fnOf "_law_draw" "_law_draw" (defArgs st6) (defBody st6) (defScope st6) .none kV6 dc6 pm6 an6 cd6 ct6), sl6⟩)
    (d6 : PySem.W.codeIn K cd6 "_law_draw" = true) (e6 : PySem.W.keepIn K (.ref f6) = true)
    {f7 : Addr} {od7 an7 : Option Addr} {sl7 : Array (Option Value)} {oc7 kV7 dc7 pm7 cd7 ct7 : Value}
    (a7 : PySem.W.nsIn K mainGlobals "_law_names" = some (some (.ref f7)))
    (l7 : K.lookup f7 = some ⟨oc7, od7, .func (PySem.W.fnOf "_law_names" "_law_names" (defArgs st7) (defBody st7) (defScope st7) .none kV7 dc7 pm7 an7 cd7 ct7), sl7⟩)
    (d7 : PySem.W.codeIn K cd7 "_law_names" = true) (e7 : PySem.W.keepIn K (.ref f7) = true)
    {f8 : Addr} {od8 an8 : Option Addr} {sl8 : Array (Option Value)} {oc8 kV8 dc8 pm8 cd8 ct8 : Value}
    (a8 : PySem.W.nsIn K mainGlobals "_law_hours" = some (some (.ref f8)))
    (l8 : K.lookup f8 = some ⟨oc8, od8, .func (PySem.W.fnOf "_law_hours" "_law_hours" (defArgs st8) (defBody st8) (defScope st8) .none kV8 dc8 pm8 an8 cd8 ct8), sl8⟩)
    (d8 : PySem.W.codeIn K cd8 "_law_hours" = true) (e8 : PySem.W.keepIn K (.ref f8) = true)
    {f9 : Addr} {od9 an9 : Option Addr} {sl9 : Array (Option Value)} {oc9 kV9 dc9 pm9 cd9 ct9 : Value}
    (a9 : PySem.W.nsIn K mainGlobals "_law_town" = some (some (.ref f9)))
    (l9 : K.lookup f9 = some ⟨oc9, od9, .func (PySem.W.fnOf "_law_town" "_law_town" (defArgs st9) (defBody st9) (defScope st9) .none kV9 dc9 pm9 an9 cd9 ct9), sl9⟩)
    (d9 : PySem.W.codeIn K cd9 "_law_town" = true) (e9 : PySem.W.keepIn K (.ref f9) = true)
    {f10 : Addr} {od10 an10 : Option Addr} {sl10 : Array (Option Value)} {oc10 kV10 dc10 pm10 cd10 ct10 : Value}
    (a10 : PySem.W.nsIn K mainGlobals "_law_day" = some (some (.ref f10)))
    (l10 : K.lookup f10 = some ⟨oc10, od10, .func (PySem.W.fnOf "_law_day" "_law_day" (defArgs st10) (defBody st10) (defScope st10) .none kV10 dc10 pm10 an10 cd10 ct10), sl10⟩)
    (d10 : PySem.W.codeIn K cd10 "_law_day" = true) (e10 : PySem.W.keepIn K (.ref f10) = true)
    {f11 : Addr} {od11 an11 : Option Addr} {sl11 : Array (Option Value)} {oc11 kV11 dc11 pm11 cd11 ct11 : Value}
    (a11 : PySem.W.nsIn K mainGlobals "_law_skills" = some (some (.ref f11)))
    (l11 : K.lookup f11 = some ⟨oc11, od11, .func (PySem.W.fnOf "_law_skills" "_law_skills" (defArgs st11) (defBody st11) (defScope st11) .none kV11 dc11 pm11 an11 cd11 ct11), sl11⟩)
    (d11 : PySem.W.codeIn K cd11 "_law_skills" = true) (e11 : PySem.W.keepIn K (.ref f11) = true)
    {f12 : Addr} {od12 an12 : Option Addr} {sl12 : Array (Option Value)} {oc12 kV12 dc12 pm12 cd12 ct12 : Value}
    (a12 : PySem.W.nsIn K mainGlobals "_law_prices" = some (some (.ref f12)))
    (l12 : K.lookup f12 = some ⟨oc12, od12, .func (PySem.W.fnOf "_law_prices" "_law_prices" (defArgs st12) (defBody st12) (defScope st12) .none kV12 dc12 pm12 an12 cd12 ct12), sl12⟩)
    (d12 : PySem.W.codeIn K cd12 "_law_prices" = true) (e12 : PySem.W.keepIn K (.ref f12) = true)
    {f13 : Addr} {od13 an13 : Option Addr} {sl13 : Array (Option Value)} {oc13 kV13 dc13 pm13 cd13 ct13 : Value}
    (a13 : PySem.W.nsIn K mainGlobals "_law_is_exchange" = some (some (.ref f13)))
    (l13 : K.lookup f13 = some ⟨oc13, od13, .func (PySem.W.fnOf "_law_is_exchange" "_law_is_exchange" (defArgs st13) (defBody st13) (defScope st13) .none kV13 dc13 pm13 an13 cd13 ct13), sl13⟩)
    (d13 : PySem.W.codeIn K cd13 "_law_is_exchange" = true) (e13 : PySem.W.keepIn K (.ref f13) = true)
    {f14 : Addr} {od14 an14 : Option Addr} {sl14 : Array (Option Value)} {oc14 kV14 dc14 pm14 cd14 ct14 : Value}
    (a14 : PySem.W.nsIn K mainGlobals "_law_pairs" = some (some (.ref f14)))
    (l14 : K.lookup f14 = some ⟨oc14, od14, .func (PySem.W.fnOf "_law_pairs" "_law_pairs" (defArgs st14) (defBody st14) (defScope st14) .none kV14 dc14 pm14 an14 cd14 ct14), sl14⟩)
    (d14 : PySem.W.codeIn K cd14 "_law_pairs" = true) (e14 : PySem.W.keepIn K (.ref f14) = true)
    {f15 : Addr} {od15 an15 : Option Addr} {sl15 : Array (Option Value)} {oc15 kV15 dc15 pm15 cd15 ct15 : Value}
    (a15 : PySem.W.nsIn K mainGlobals "_law_jobs" = some (some (.ref f15)))
    (l15 : K.lookup f15 = some ⟨oc15, od15, .func (PySem.W.fnOf "_law_jobs" "_law_jobs" (defArgs st15) (defBody st15) (defScope st15) .none kV15 dc15 pm15 an15 cd15 ct15), sl15⟩)
    (d15 : PySem.W.codeIn K cd15 "_law_jobs" = true) (e15 : PySem.W.keepIn K (.ref f15) = true)
    {f16 : Addr} {od16 an16 : Option Addr} {sl16 : Array (Option Value)} {oc16 kV16 dc16 pm16 cd16 ct16 : Value}
    (a16 : PySem.W.nsIn K mainGlobals "_law_ring" = some (some (.ref f16)))
    (l16 : K.lookup f16 = some ⟨oc16, od16, .func (PySem.W.fnOf "_law_ring" "_law_ring" (defArgs st16) (defBody st16) (defScope st16) .none kV16 dc16 pm16 an16 cd16 ct16), sl16⟩)
    (d16 : PySem.W.codeIn K cd16 "_law_ring" = true) (e16 : PySem.W.keepIn K (.ref f16) = true)
    {f17 : Addr} {od17 an17 : Option Addr} {sl17 : Array (Option Value)} {oc17 kV17 dc17 pm17 cd17 ct17 : Value}
    (a17 : PySem.W.nsIn K mainGlobals "law" = some (some (.ref f17)))
    (l17 : K.lookup f17 = some ⟨oc17, od17, .func (PySem.W.fnOf "law" "law" (defArgs st17) (defBody st17) (defScope st17) .none kV17 dc17 pm17 an17 cd17 ct17), sl17⟩)
    (d17 : PySem.W.codeIn K cd17 "law" = true) (e17 : PySem.W.keepIn K (.ref f17) = true)
    (z_len : PySem.W.nsIn K mainGlobals "len" = some none)
    (z_abs : PySem.W.nsIn K mainGlobals "abs" = some none)
    (z_min : PySem.W.nsIn K mainGlobals "min" = some none)
    (z_max : PySem.W.nsIn K mainGlobals "max" = some none)
    (z_sum : PySem.W.nsIn K mainGlobals "sum" = some none)
    (z_all : PySem.W.nsIn K mainGlobals "all" = some none)
    (z_any : PySem.W.nsIn K mainGlobals "any" = some none)
    (z_int : PySem.W.nsIn K mainGlobals "int" = some none)
    (z_str : PySem.W.nsIn K mainGlobals "str" = some none)
    (z_list : PySem.W.nsIn K mainGlobals "list" = some none)
    (z_tuple : PySem.W.nsIn K mainGlobals "tuple" = some none)
    (z_range : PySem.W.nsIn K mainGlobals "range" = some none)
    (z_zip : PySem.W.nsIn K mainGlobals "zip" = some none)
    (z_enumerate : PySem.W.nsIn K mainGlobals "enumerate" = some none)
    (z_isinstance : PySem.W.nsIn K mainGlobals "isinstance" = some none)
    (z_set : PySem.W.nsIn K mainGlobals "set" = some none)
    (z_sorted : PySem.W.nsIn K mainGlobals "sorted" = some none)
    (z_dict : PySem.W.nsIn K mainGlobals "dict" = some none)
    (z_reversed : PySem.W.nsIn K mainGlobals "reversed" = some none)
    (z_bool : PySem.W.nsIn K mainGlobals "bool" = some none)
    {t_MOST_NAME : Tok} (v_MOST_NAME : PySem.W.nsIn K mainGlobals "MOST_NAME" = some (some (.int (8) t_MOST_NAME)))
    {t_LETTERS : Tok} (v_LETTERS : PySem.W.nsIn K mainGlobals "LETTERS" = some (some (.str "abcdefghijklmnopqrstuvwxyz" t_LETTERS)))
    : ∃ fd : FuncData, (∀ (s : Shared) (v : Value), BindsTo s fd ⟨[v], []⟩ [("_law_script", v)]) ∧ ∀ base : Heap, K.In base → base.Ns mainGlobals mg → FnOk l.prog w K mg base CX0 18 fa fd ["_law_script"] (spOf K (Phi 17)) := by
  have e := hfa.symm.trans (PySem.W.mg_of X G a17)
  cases e
  have F0 := fun_mk (st := st0) l0 d0 e0
  have b0 := F0.binds (ps := P0) fun _ _ _ _ _ _ us hl => match us, hl with | [_], _ => rfl
  have F1 := fun_mk (st := st1) l1 d1 e1
  have b1 := F1.binds (ps := P1) fun _ _ _ _ _ _ us hl => match us, hl with | [_, _], _ => rfl
  have F2 := fun_mk (st := st2) l2 d2 e2
  have b2 := F2.binds (ps := P2) fun _ _ _ _ _ _ us hl => match us, hl with | [_, _, _], _ => rfl
  have F3 := fun_mk (st := st3) l3 d3 e3
  have b3 := F3.binds (ps := P3) fun _ _ _ _ _ _ us hl => match us, hl with | [_, _, _], _ => rfl
  have F4 := fun_mk (st := st4) l4 d4 e4
  have b4 := F4.binds (ps := P4) fun _ _ _ _ _ _ us hl => match us, hl with | [_], _ => rfl
  have F5 := fun_mk (st := st5) l5 d5 e5
  have b5 := F5.binds (ps := P5) fun _ _ _ _ _ _ us hl => match us, hl with | [_, _, _], _ => rfl
  have F6 := fun_mk (st := st6) l6 d6 e6
  have b6 := F6.binds (ps := P6) fun _ _ _ _ _ _ us hl => match us, hl with | [_, _, _], _ => rfl
  have F7 := fun_mk (st := st7) l7 d7 e7
  have b7 := F7.binds (ps := P7) fun _ _ _ _ _ _ us hl => match us, hl with | [_, _, _], _ => rfl
  have F8 := fun_mk (st := st8) l8 d8 e8
  have b8 := F8.binds (ps := P8) fun _ _ _ _ _ _ us hl => match us, hl with | [_, _], _ => rfl
  have F9 := fun_mk (st := st9) l9 d9 e9
  have b9 := F9.binds (ps := P9) fun _ _ _ _ _ _ us hl => match us, hl with | [_, _, _], _ => rfl
  have F10 := fun_mk (st := st10) l10 d10 e10
  have b10 := F10.binds (ps := P10) fun _ _ _ _ _ _ us hl => match us, hl with | [_, _, _, _], _ => rfl
  have F11 := fun_mk (st := st11) l11 d11 e11
  have b11 := F11.binds (ps := P11) fun _ _ _ _ _ _ us hl => match us, hl with | [_], _ => rfl
  have F12 := fun_mk (st := st12) l12 d12 e12
  have b12 := F12.binds (ps := P12) fun _ _ _ _ _ _ us hl => match us, hl with | [_, _, _, _], _ => rfl
  have F13 := fun_mk (st := st13) l13 d13 e13
  have b13 := F13.binds (ps := P13) fun _ _ _ _ _ _ us hl => match us, hl with | [_, _, _], _ => rfl
  have F14 := fun_mk (st := st14) l14 d14 e14
  have b14 := F14.binds (ps := P14) fun _ _ _ _ _ _ us hl => match us, hl with | [_], _ => rfl
  have F15 := fun_mk (st := st15) l15 d15 e15
  have b15 := F15.binds (ps := P15) fun _ _ _ _ _ _ us hl => match us, hl with | [_, _, _, _], _ => rfl
  have F16 := fun_mk (st := st16) l16 d16 e16
  have b16 := F16.binds (ps := P16) fun _ _ _ _ _ _ us hl => match us, hl with | [_, _], _ => rfl
  have F17 := fun_mk (st := st17) l17 d17 e17
  refine ⟨PySem.W.fnOf "law" "law" (defArgs st17) (defBody st17) (defScope st17) .none kV17 dc17 pm17 an17 cd17 ct17, fun s v => .of_eq rfl, fun base _ _ => ?_⟩
  have g0 : GOk l.prog w K mg base CX0 Gm Phi 0 := GOk.zeroG (fun b => by cases b <;> first | exact PySem.W.mg_none_of X G z_len | exact PySem.W.mg_none_of X G z_abs | exact PySem.W.mg_none_of X G z_min | exact PySem.W.mg_none_of X G z_max | exact PySem.W.mg_none_of X G z_sum | exact PySem.W.mg_none_of X G z_all | exact PySem.W.mg_none_of X G z_any | exact PySem.W.mg_none_of X G z_int | exact PySem.W.mg_none_of X G z_str | exact PySem.W.mg_none_of X G z_list | exact PySem.W.mg_none_of X G z_tuple | exact PySem.W.mg_none_of X G z_sorted | exact PySem.W.mg_none_of X G z_dict) ⟨PySem.W.mg_none_of X G z_range, PySem.W.mg_none_of X G z_zip, PySem.W.mg_none_of X G z_enumerate, PySem.W.mg_none_of X G z_isinstance, PySem.W.mg_none_of X G z_set, PySem.W.mg_none_of X G z_sorted, PySem.W.mg_none_of X G z_dict, PySem.W.mg_none_of X G z_reversed, PySem.W.mg_none_of X G z_bool⟩ (by
    intro x c h
    rcases List.mem_cons.mp h with e | h
    · cases e; exact ⟨_, PySem.W.mg_of X G v_MOST_NAME, _, rfl⟩
    rcases List.mem_cons.mp h with e | h
    · cases e; exact ⟨_, PySem.W.mg_of X G v_LETTERS, _, rfl⟩
    cases h)
  have g1 := g0.step (x := "is_name") (m := 1) rfl (PySem.W.mg_of X G a0) e0 rfl b0 (def_ok F0 z0 g0 k0 len0 ok0)
  have g2 := g1.step (x := "is_row") (m := 2) rfl (PySem.W.mg_of X G a1) e1 rfl b1 (def_ok F1 z1 g1 k1 len1 ok1)
  have g3 := g2.step (x := "is_job") (m := 3) rfl (PySem.W.mg_of X G a2) e2 rfl b2 (def_ok F2 z2 g2 k2 len2 ok2)
  have g4 := g3.step (x := "is_exchange") (m := 3) rfl (PySem.W.mg_of X G a3) e3 rfl b3 (def_ok F3 z3 g3 k3 len3 ok3)
  have g5 := g4.step (x := "moved") (m := 1) rfl (PySem.W.mg_of X G a4) e4 rfl b4 (def_ok F4 z4 g4 k4 len4 ok4)
  have g6 := g5.step (x := "bound") (m := 3) rfl (PySem.W.mg_of X G a5) e5 rfl b5 (def_ok F5 z5 g5 k5 len5 ok5)
  have g7 := g6.step (x := "_law_draw") (m := 3) rfl (PySem.W.mg_of X G a6) e6 rfl b6 (def_ok F6 z6 g6 k6 len6 ok6)
  have g8 := g7.step (x := "_law_names") (m := 3) rfl (PySem.W.mg_of X G a7) e7 rfl b7 (def_ok F7 z7 g7 k7 len7 ok7)
  have g9 := g8.step (x := "_law_hours") (m := 2) rfl (PySem.W.mg_of X G a8) e8 rfl b8 (def_ok F8 z8 g8 k8 len8 ok8)
  have g10 := g9.step (x := "_law_town") (m := 3) rfl (PySem.W.mg_of X G a9) e9 rfl b9 (def_ok F9 z9 g9 k9 len9 ok9)
  have g11 := g10.step (x := "_law_day") (m := 4) rfl (PySem.W.mg_of X G a10) e10 rfl b10 (def_ok F10 z10 g10 k10 len10 ok10)
  have g12 := g11.step (x := "_law_skills") (m := 1) rfl (PySem.W.mg_of X G a11) e11 rfl b11 (def_ok F11 z11 g11 k11 len11 ok11)
  have g13 := g12.step (x := "_law_prices") (m := 4) rfl (PySem.W.mg_of X G a12) e12 rfl b12 (def_ok F12 z12 g12 k12 len12 ok12)
  have g14 := g13.step (x := "_law_is_exchange") (m := 3) rfl (PySem.W.mg_of X G a13) e13 rfl b13 (def_ok F13 z13 g13 k13 len13 ok13)
  have g15 := g14.step (x := "_law_pairs") (m := 1) rfl (PySem.W.mg_of X G a14) e14 rfl b14 (def_ok F14 z14 g14 k14 len14 ok14)
  have g16 := g15.step (x := "_law_jobs") (m := 4) rfl (PySem.W.mg_of X G a15) e15 rfl b15 (def_ok F15 z15 g15 k15 len15 ok15)
  have g17 := g16.step (x := "_law_ring") (m := 2) rfl (PySem.W.mg_of X G a16) e16 rfl b16 (def_ok F16 z16 g16 k16 len16 ok16)
  exact def_ok F17 z17 g17 k17 len17 ok17
end K07
open PySem PySem.W PyProof.Rows
set_option maxHeartbeats 0 in
theorem PySem.Challenge.cw_hourring_k07_whole_none_moves_more_holds : PySem.Challenge.rw_hourring_k07_whole_none_moves_more.Holds := by
  w_on; o_law; k_head; (case hw => w_witness2)
  k_fill
  refine MP.walk_ofM (l := PySem.Challenge.rw_hourring_k07_whole_none_moves_more) (n := 63) (k := 18) (x := "_law_script") (sp := K07.Phi 17) rfl (by decide) rfl ⟨rfl, by decide, by decide⟩ (fun w h Y => PySem.W.kIn_of Y) rfl ?F
  case F =>
    intro w mg fa h KX G hmg
    refine' K07.all_mk KX G hmg ?a0 ?l0 ?d0 ?e0 ?a1 ?l1 ?d1 ?e1 ?a2 ?l2 ?d2 ?e2 ?a3 ?l3 ?d3 ?e3 ?a4 ?l4 ?d4 ?e4 ?a5 ?l5 ?d5 ?e5 ?a6 ?l6 ?d6 ?e6 ?a7 ?l7 ?d7 ?e7 ?a8 ?l8 ?d8 ?e8 ?a9 ?l9 ?d9 ?e9 ?a10 ?l10 ?d10 ?e10 ?a11 ?l11 ?d11 ?e11 ?a12 ?l12 ?d12 ?e12 ?a13 ?l13 ?d13 ?e13 ?a14 ?l14 ?d14 ?e14 ?a15 ?l15 ?d15 ?e15 ?a16 ?l16 ?d16 ?e16 ?a17 ?l17 ?d17 ?e17 ?z_len ?z_abs ?z_min ?z_max ?z_sum ?z_all ?z_any ?z_int ?z_str ?z_list ?z_tuple ?z_range ?z_zip ?z_enumerate ?z_isinstance ?z_set ?z_sorted ?z_dict ?z_reversed ?z_bool ?v_MOST_NAME ?v_LETTERS
    (case a0 => k_is); (case l0 => k_is); (case d0 => k_is); (case e0 => k_is); (case a1 => k_is); (case l1 => k_is); (case d1 => k_is); (case e1 => k_is); (case a2 => k_is); (case l2 => k_is); (case d2 => k_is); (case e2 => k_is); (case a3 => k_is); (case l3 => k_is); (case d3 => k_is); (case e3 => k_is); (case a4 => k_is); (case l4 => k_is); (case d4 => k_is); (case e4 => k_is); (case a5 => k_is); (case l5 => k_is); (case d5 => k_is); (case e5 => k_is); (case a6 => k_is); (case l6 => k_is); (case d6 => k_is); (case e6 => k_is); (case a7 => k_is); (case l7 => k_is); (case d7 => k_is); (case e7 => k_is); (case a8 => k_is); (case l8 => k_is); (case d8 => k_is); (case e8 => k_is); (case a9 => k_is); (case l9 => k_is); (case d9 => k_is); (case e9 => k_is); (case a10 => k_is); (case l10 => k_is); (case d10 => k_is); (case e10 => k_is); (case a11 => k_is); (case l11 => k_is); (case d11 => k_is); (case e11 => k_is); (case a12 => k_is); (case l12 => k_is); (case d12 => k_is); (case e12 => k_is); (case a13 => k_is); (case l13 => k_is); (case d13 => k_is); (case e13 => k_is); (case a14 => k_is); (case l14 => k_is); (case d14 => k_is); (case e14 => k_is); (case a15 => k_is); (case l15 => k_is); (case d15 => k_is); (case e15 => k_is); (case a16 => k_is); (case l16 => k_is); (case d16 => k_is); (case e16 => k_is); (case a17 => k_is); (case l17 => k_is); (case d17 => k_is); (case e17 => k_is); (case z_len => k_is); (case z_abs => k_is); (case z_min => k_is); (case z_max => k_is); (case z_sum => k_is); (case z_all => k_is); (case z_any => k_is); (case z_int => k_is); (case z_str => k_is); (case z_list => k_is); (case z_tuple => k_is); (case z_range => k_is); (case z_zip => k_is); (case z_enumerate => k_is); (case z_isinstance => k_is); (case z_set => k_is); (case z_sorted => k_is); (case z_dict => k_is); (case z_reversed => k_is); (case z_bool => k_is); (case v_MOST_NAME => k_is); (case v_LETTERS => k_is)

