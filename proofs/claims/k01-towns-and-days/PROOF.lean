import PyProof.Rows.All
import Wide.All
import OpenK.AllK
import Wide.FinOn
import HandS.ForMost
import HandS.Flow
import HandS.Wide
import HandS.Style
import HandS.Deep
import HandS.IsInst
import HandS.Zip
import HandS.Exc
import HandS.ExcOwn
import HandS.ExcIs
import HandS.ExcValue
import KE.DataCmp
import KE.DataMinMax
import KE.SortData
import PyProof.ReprRoads
import HandS.TupAny
import HandS.TupLen
import KE.KDictPairs
import HandS.Conv
import HandS.NoneIn
import KE.KDictZip
import KE.KItemsList
import PyProof.MaxThree
import HandS.TupSets
import KE.KRevSl
import HandS.Strs
import KE.KDictCopyH
import HandS.Words
import HandS.Ends
import HandS.WordsExc
import PySem.Challenge.RW_hourring_k01_whole_towns_and_days
set_option Elab.async false
set_option linter.all false
set_option maxRecDepth 100000
set_option maxHeartbeats 4000000
/-! MP1: values by data, cells of an abstract store, and how they stand in the layer's heap. -/
namespace MP
open PySem PySem.Spec PyProof.Rows L2

/-- a value: tuples and frozen lists by value; what may be changed by its address -/
inductive W where
  | non | bl (b : Bool) | int (i : Int) | str (x : Str) | ref (a : Addr) | tup (xs : List W) | lst (xs : List W)
/-- a cell that may be changed; lk: one that is being walked, only read -/
inductive Ob where
  | lst (xs : List W) | dk (kvs : List (Key × W)) | dt (kvs : List (List Key × W)) | ins (C : Addr) (fs : List (Str × W)) | lk (o : Ob) (od : Obj) (u : HO)
  /-- an exception that was caught, by its class's name -/
  | exn (x : Str)
abbrev Sto := Addr → Option Ob
def sup (S : Sto) (a : Addr) (o : Ob) : Sto := fun b => if b = a then some o else S b
def sdel (S : Sto) (a : Addr) : Sto := fun b => if b = a then none else S b
theorem sup_same {S : Sto} {a : Addr} {o : Ob} : sup S a o a = some o := by unfold sup; rw [if_pos rfl]
theorem sup_ne {S : Sto} {a b : Addr} {o : Ob} (h : b ≠ a) : sup S a o b = S b := by unfold sup; rw [if_neg h]
theorem sdel_same {S : Sto} {a : Addr} : sdel S a a = none := by unfold sdel; rw [if_pos rfl]
theorem sdel_ne {S : Sto} {a b : Addr} (h : b ≠ a) : sdel S a b = S b := by unfold sdel; rw [if_neg h]
theorem sup_sup {S : Sto} {a : Addr} {o u : Ob} : sup (sup S a o) a u = sup S a u := by
  funext b; unfold sup; split <;> rfl
theorem sdel_sup {S : Sto} {a : Addr} {o : Ob} (h : S a = none) : sdel (sup S a o) a = S := by
  funext b; unfold sdel sup; split
  · rename_i e; rw [e]; exact h.symm
  · rfl
theorem sup_eq {S : Sto} {a : Addr} {o : Ob} (h : S a = some o) : sup S a o = S := by
  funext b; unfold sup; split
  · rename_i e; rw [e]; exact h.symm
  · rfl
theorem sne_of {S : Sto} {a p : Addr} {o : Ob} (h : S a = some o) (hp : S p = none) : a ≠ p := by
  intro e; subst e; rw [h] at hp; cases hp

/-! ### how a value stands -/
/-- the written part; addresses that are hidden (a list that a comprehension is making) -/
structure KH where
  K : PySem.W.Frag
  h : Addr → Bool
/-- a list that stands in the written part -/
def SqK (K : PySem.W.Frag) (a : Addr) (xs : List V) : Prop := ∃ (its : Array Value) (n : Nat), K.lookup a = some { cls := .type "list", data := .seq its n } ∧ its.size ≤ sizeLine ∧ Vals xs its.toList
def SqR (K : PySem.W.Frag) (H : Hp) (a : Addr) (xs : List V) : Prop := Rd H a (.lst xs) ∨ SqK K a xs
theorem SqR.sq {K : PySem.W.Frag} {H : Hp} {a : Addr} {xs : List V} (h : SqR K H a xs) : SqL K H a xs := by
  rcases h with h | ⟨its, n, h1, h2, h3⟩
  · exact .inl h
  · exact .inr ⟨_, its, n, h1, rfl, rfl, rfl, h2, h3⟩
mutual
inductive Rep (K : KH) (F : Hp) : W → V → Prop
  | non : Rep K F .non .non
  | bl (b : Bool) : Rep K F (.bl b) (.bl b)
  | int (i : Int) : Rep K F (.int i) (.int i)
  | str (x : Str) : Rep K F (.str x) (.str x)
  | ref (a : Addr) : Rep K F (.ref a) (.ref a)
  | tup {a : Addr} {vs : List V} {ws : List W} : K.h a = false → F a = some (.tup vs) → RepL K F ws vs → Rep K F (.tup ws) (.ref a)
  | lst {a : Addr} {vs : List V} {ws : List W} : K.h a = false → Rd F a (.lst vs) → RepL K F ws vs → Rep K F (.lst ws) (.ref a)
  | klst {a : Addr} {vs : List V} {ws : List W} : SqK K.K a vs → RepL K F ws vs → Rep K F (.lst ws) (.ref a)
inductive RepL (K : KH) (F : Hp) : List W → List V → Prop
  | nil : RepL K F [] []
  | cons {w : W} {ws : List W} {v : V} {vs : List V} : Rep K F w v → RepL K F ws vs → RepL K F (w :: ws) (v :: vs)
end
theorem same_rd {H H' : Hp} {a : Addr} {u : HO} (e : Same H H') (h : Rd H a u) : Rd H' a u := by
  rcases h with h | ⟨o, h⟩
  · exact .inl (e _ _ h)
  · exact .inr ⟨o, e _ _ h⟩
mutual
theorem Rep.mono {K : KH} {F F' : Hp} (e : Same F F') : ∀ {w : W} {v : V}, Rep K F w v → Rep K F' w v
  | _, _, .non => .non
  | _, _, .bl b => .bl b
  | _, _, .int i => .int i
  | _, _, .str x => .str x
  | _, _, .ref a => .ref a
  | _, _, .tup n h r => .tup n (e _ _ h) (RepL.mono e r)
  | _, _, .lst n h r => .lst n (same_rd e h) (RepL.mono e r)
  | _, _, .klst h r => .klst h (RepL.mono e r)
theorem RepL.mono {K : KH} {F F' : Hp} (e : Same F F') : ∀ {ws : List W} {vs : List V}, RepL K F ws vs → RepL K F' ws vs
  | _, _, .nil => .nil
  | _, _, .cons h r => .cons (Rep.mono e h) (RepL.mono e r)
end
section
variable {K : KH} {F F' : Hp}
theorem RepL.length : ∀ {ws : List W} {vs : List V}, RepL K F ws vs → ws.length = vs.length
  | _, _, .nil => rfl
  | _, _, .cons _ r => by rw [List.length_cons, List.length_cons, RepL.length r]
theorem RepL.get : ∀ {ws : List W} {vs : List V} {i : Nat} {w : W}, RepL K F ws vs → ws[i]? = some w → ∃ v, vs[i]? = some v ∧ Rep K F w v
  | _, _, _, _, .nil, e => by simp at e
  | _, _, 0, _, .cons h _, e => by simp at e; subst e; exact ⟨_, rfl, h⟩
  | _, _, i + 1, w, .cons _ r, e => by
    obtain ⟨v, h1, h2⟩ := RepL.get (i := i) (w := w) r (by simpa using e)
    exact ⟨v, by simpa using h1, h2⟩
theorem RepL.get' : ∀ {ws : List W} {vs : List V} {i : Nat} {v : V}, RepL K F ws vs → vs[i]? = some v → ∃ w, ws[i]? = some w ∧ Rep K F w v
  | _, _, _, _, .nil, e => by simp at e
  | _, _, 0, _, .cons h _, e => by simp at e; subst e; exact ⟨_, rfl, h⟩
  | _, _, i + 1, v, .cons _ r, e => by
    obtain ⟨w, h1, h2⟩ := RepL.get' (i := i) (v := v) r (by simpa using e)
    exact ⟨w, by simpa using h1, h2⟩
theorem RepL.append : ∀ {xs ys : List W} {us vs : List V}, RepL K F xs us → RepL K F ys vs → RepL K F (xs ++ ys) (us ++ vs)
  | _, _, _, _, .nil, s => s
  | _, _, _, _, .cons h r, s => .cons h (RepL.append r s)
theorem RepL.take : ∀ {ws : List W} {vs : List V} (n : Nat), RepL K F ws vs → RepL K F (ws.take n) (vs.take n)
  | _, _, 0, _ => .nil
  | _, _, _ + 1, .nil => .nil
  | _, _, n + 1, .cons h r => .cons h (RepL.take n r)
theorem RepL.drop : ∀ {ws : List W} {vs : List V} (n : Nat), RepL K F ws vs → RepL K F (ws.drop n) (vs.drop n)
  | _, _, 0, r => r
  | _, _, _ + 1, .nil => .nil
  | _, _, n + 1, .cons _ r => RepL.drop n r
theorem RepL.set {w : W} {v : V} (h : Rep K F w v) : ∀ {ws : List W} {vs : List V} (i : Nat), RepL K F ws vs → RepL K F (ws.set i w) (vs.set i v)
  | _, _, _, .nil => .nil
  | _, _, 0, .cons _ r => .cons h r
  | _, _, i + 1, .cons q r => .cons q (RepL.set h i r)
theorem RepL.reverse {ws : List W} {vs : List V} (r : RepL K F ws vs) : RepL K F ws.reverse vs.reverse := by
  induction ws generalizing vs with
  | nil => cases r; exact .nil
  | cons w ws ih =>
    cases r with
    | cons h r =>
      rw [List.reverse_cons, List.reverse_cons]
      exact (ih r).append (.cons h .nil)
theorem RepL.rep {ws : List W} {vs : List V} (r : RepL K F ws vs) : ∀ k : Nat, RepL K F (List.replicate k ws).flatten (List.replicate k vs).flatten
  | 0 => .nil
  | k + 1 => by
    rw [List.replicate_succ, List.replicate_succ, List.flatten_cons, List.flatten_cons]
    exact r.append (r.rep k)
theorem RepL.dropLast {ws : List W} {vs : List V} (r : RepL K F ws vs) : RepL K F ws.dropLast vs.dropLast := by
  rw [List.dropLast_eq_take, List.dropLast_eq_take, r.length]
  exact r.take _
theorem RepL.eraseIdx : ∀ {ws : List W} {vs : List V} (i : Nat), RepL K F ws vs → RepL K F (ws.eraseIdx i) (vs.eraseIdx i)
  | _, _, _, .nil => .nil
  | _, _, 0, .cons _ r => r
  | _, _, i + 1, .cons h r => .cons h (RepL.eraseIdx i r)
theorem RepL.split {xs : List W} : ∀ {ys : List W} {vs : List V}, RepL K F (xs ++ ys) vs → ∃ us us', vs = us ++ us' ∧ RepL K F xs us ∧ RepL K F ys us' := by
  induction xs with
  | nil => intro ys vs r; exact ⟨[], vs, rfl, .nil, r⟩
  | cons x xs ih =>
    intro ys vs r
    cases r with
    | cons h r =>
      obtain ⟨us, us', rfl, a, b⟩ := ih r
      exact ⟨_ :: us, us', rfl, .cons h a, b⟩
theorem RepL.ints : ∀ {ns : List Int} {vs : List V}, RepL K F (ns.map W.int) vs → vs = ns.map V.int
  | [], _, .nil => rfl
  | n :: ns, _, .cons h r => by
    cases h
    rw [RepL.ints r]
    rfl
theorem RepL.strs : ∀ {ns : List Str} {vs : List V}, RepL K F (ns.map W.str) vs → vs = ns.map V.str
  | [], _, .nil => rfl
  | n :: ns, _, .cons h r => by
    cases h
    rw [RepL.strs r]
    rfl
theorem RepL.bls : ∀ {ns : List Bool} {vs : List V}, RepL K F (ns.map W.bl) vs → vs = ns.map V.bl
  | [], _, .nil => rfl
  | n :: ns, _, .cons h r => by
    cases h
    rw [RepL.bls r]
    rfl
theorem RepL.ofInts : ∀ {ns : List Int}, RepL K F (ns.map W.int) (ns.map V.int)
  | [] => .nil
  | n :: ns => .cons (.int n) RepL.ofInts
theorem RepL.ofStrs : ∀ {ns : List Str}, RepL K F (ns.map W.str) (ns.map V.str)
  | [] => .nil
  | n :: ns => .cons (.str n) RepL.ofStrs
end

/-! ### cells -/
/-- the layer's heap without the cells -/
def fz (S : Sto) (H : Hp) : Hp := fun b => if (S b).isSome then none else H b
theorem fz_none {S : Sto} {H : Hp} {b : Addr} (h : S b = none) : fz S H b = H b := by
  unfold fz; rw [h]; rfl
theorem fz_some {S : Sto} {H : Hp} {b : Addr} {o : HO} (h : fz S H b = some o) : S b = none ∧ H b = some o := by
  unfold fz at h
  cases e : S b with
  | none => rw [e] at h; exact ⟨rfl, h⟩
  | some u => rw [e] at h; cases h
theorem fz_sub {S : Sto} {H : Hp} : Same (fz S H) H := fun _ _ h => (fz_some h).2
abbrev KVR {κ : Type} (K : KH) (F : Hp) : List (κ × W) → List (κ × V) → Prop := Paired fun p q => p.1 = q.1 ∧ Rep K F p.2 q.2
/-- a class by its name in the written part -/
def clsA (K : PySem.W.Frag) (x : Str) : Addr := match PySem.W.nsIn K mainGlobals x with
  | some (some (.ref C)) => C
  | _ => 0
/-- an exception's object at a, of the class x -/
def exH (K : PySem.W.Frag) (x : Str) (a : Addr) : HO := .ext fun h => ∃ (oe : Obj) (vs : Array Value), h.get? a = some oe ∧ Zc (.ref (clsA K x)) none oe ∧ oe.data = .fields vs
/-- what stands for a cell's content -/
def ObR (K : KH) (F H : Hp) (a : Addr) : Ob → HO → Prop
  | .lst ws, u => ∃ vs, u = .lst vs ∧ RepL K F ws vs
  | .dk kvs, u => ∃ kv', u = .dK kv' ∧ KVR K F kvs kv'
  | .dt kvs, u => ∃ kv', u = .dT kv' ∧ KVR K F kvs kv'
  | .ins C fs, u => ∃ dx fs', u = .ins C dx fs' ∧ KVR K F fs fs'
  | .lk o od u', u => u = .frz od u' ∧ ObR K F H a o u'
  | .exn x, u => u = exH K.K x a
theorem KVR.mono {κ : Type} {K : KH} {F F' : Hp} (e : Same F F') {kvs : List (κ × W)} {kv' : List (κ × V)} (r : KVR K F kvs kv') : KVR K F' kvs kv' :=
  Paired.mapP r fun _ _ z => ⟨z.1, z.2.mono e⟩
theorem ObR.mono {K : KH} {F F' H H' : Hp} {a : Addr} (e : Same F F') : ∀ {o : Ob} {u : HO}, ObR K F H a o u → ObR K F' H' a o u
  | .lst _, _, ⟨vs, h, r⟩ => ⟨vs, h, r.mono e⟩
  | .dk _, _, ⟨kv', h, r⟩ => ⟨kv', h, r.mono e⟩
  | .dt _, _, ⟨kv', h, r⟩ => ⟨kv', h, r.mono e⟩
  | .ins _ _, _, ⟨dx, fs', h, r⟩ => ⟨dx, fs', h, r.mono e⟩
  | .lk o _ _, _, ⟨h, r⟩ => ⟨h, ObR.mono (o := o) e r⟩
  | .exn _, _, h => h
/-- no tuple -/
def noTup : HO → Prop
  | .tup _ => False
  | _ => True
structure StoOk (K : KH) (S : Sto) (H : Hp) : Prop where
  at' : ∀ a o, S a = some o → ∃ u, H a = some u ∧ ObR K (fz S H) H a o u
  hid : ∀ a, K.h a = true → S a = none ∧ ∃ u, H a = some u ∧ noTup u
section
variable {K : KH} {S S' : Sto} {H H' : Hp} {p a : Addr} {o u : HO} {ob : Ob}
theorem StoOk.free (k : StoOk K S H) (h : H p = none) : S p = none := by
  cases e : S p with
  | none => rfl
  | some u =>
    obtain ⟨v, hv, _⟩ := k.at' p u e
    rw [hv] at h; cases h
/-- a new thing, frozen -/
theorem same_new (k : StoOk K S H) (h : H p = none) : Same (fz S H) (fz S (upd H p o)) := fun b u e => by
  obtain ⟨h1, h2⟩ := fz_some e
  rw [fz_none h1, upd_ne (ne_of_none h2 h)]
  exact h2
theorem fz_new (k : StoOk K S H) (h : H p = none) : fz S (upd H p o) p = some o := by
  rw [fz_none (k.free h), upd_same]
theorem StoOk.nohid (k : StoOk K S H) (h : H p = none) : K.h p = false := by
  cases e : K.h p with
  | false => rfl
  | true =>
    obtain ⟨_, u, hu, _⟩ := k.hid p e
    rw [h] at hu; cases hu
/-- what is hidden stays -/
theorem StoOk.hidTo (k : StoOk K S H) (e : Same (fz S H) (fz S' H')) : ∀ a, K.h a = true → S' a = none ∧ ∃ u, H' a = some u ∧ noTup u := fun a h => by
  obtain ⟨h1, u, h2, hn⟩ := k.hid a h
  obtain ⟨h3, h4⟩ := fz_some (e a u (by rw [fz_none h1]; exact h2))
  exact ⟨h3, u, h4, hn⟩
theorem StoOk.new (k : StoOk K S H) (h : H p = none) : StoOk K S (upd H p o) := ⟨fun b u e => by
  obtain ⟨v, hv, r⟩ := k.at' b u e
  exact ⟨v, by rw [upd_ne (ne_of_none hv h)]; exact hv, r.mono (same_new k h)⟩, k.hidTo (same_new k h)⟩
/-- a new thing, a cell -/
theorem same_newc (k : StoOk K S H) (h : H p = none) : Same (fz S H) (fz (sup S p ob) (upd H p o)) := fun b u e => by
  obtain ⟨h1, h2⟩ := fz_some e
  have hb := ne_of_none h2 h
  rw [fz_none (by rw [sup_ne hb]; exact h1), upd_ne hb]
  exact h2
theorem StoOk.newc (k : StoOk K S H) (h : H p = none) (r : ObR K (fz S H) H p ob o) : StoOk K (sup S p ob) (upd H p o) := ⟨fun b u e => by
  by_cases hb : b = p
  · subst hb
    rw [sup_same] at e; cases e
    exact ⟨o, upd_same, r.mono (same_newc k h)⟩
  · rw [sup_ne hb] at e
    obtain ⟨v, hv, q⟩ := k.at' b u e
    exact ⟨v, by rw [upd_ne hb]; exact hv, q.mono (same_newc k h)⟩, k.hidTo (same_newc k h)⟩
/-- a cell is changed -/
theorem fz_put {ob' : Ob} (h : S a = some ob') : fz (sup S a ob) (upd H a o) = fz S H := by
  funext b
  by_cases hb : b = a
  · subst hb
    unfold fz
    rw [sup_same, h]
    rfl
  · unfold fz
    rw [sup_ne hb, upd_ne hb]
theorem StoOk.put {ob' : Ob} (k : StoOk K S H) (h : S a = some ob') (r : ObR K (fz S H) H a ob o) : StoOk K (sup S a ob) (upd H a o) := ⟨fun b u e => by
  rw [fz_put h]
  by_cases hb : b = a
  · subst hb
    rw [sup_same] at e; cases e
    exact ⟨o, upd_same, r.mono (Same.refl _)⟩
  · rw [sup_ne hb] at e
    obtain ⟨v, hv, q⟩ := k.at' b u e
    exact ⟨v, by rw [upd_ne hb]; exact hv, q.mono (Same.refl _)⟩, k.hidTo (by rw [fz_put h]; exact Same.refl _)⟩
/-- a cell is no longer changed -/
theorem same_del : Same (fz S H) (fz (sdel S a) H) := fun b u e => by
  obtain ⟨h1, h2⟩ := fz_some e
  have : sdel S a b = none := by unfold sdel; split <;> first | rfl | exact h1
  rw [fz_none this]
  exact h2
theorem StoOk.del (k : StoOk K S H) : StoOk K (sdel S a) H := ⟨fun b u e => by
  by_cases hb : b = a
  · subst hb; rw [sdel_same] at e; cases e
  · rw [sdel_ne hb] at e
    obtain ⟨v, hv, q⟩ := k.at' b u e
    exact ⟨v, hv, q.mono same_del⟩, k.hidTo same_del⟩
/-- fewer cells -/
def Fewer (S' S : Sto) : Prop := ∀ a o, S' a = some o → S a = some o
theorem same_fewer (f : Fewer S' S) : Same (fz S H) (fz S' H) := fun b u e => by
  obtain ⟨h1, h2⟩ := fz_some e
  have : S' b = none := by
    cases q : S' b with
    | none => rfl
    | some v => rw [f b v q] at h1; cases h1
  rw [fz_none this]
  exact h2
theorem StoOk.fewer (k : StoOk K S H) (f : Fewer S' S) : StoOk K S' H := ⟨fun b u e => by
  obtain ⟨v, hv, q⟩ := k.at' b u (f b u e)
  exact ⟨v, hv, q.mono (same_fewer f)⟩, k.hidTo (same_fewer f)⟩
end

/-! ### names -/
abbrev Env := List (Option W)
structure Sim (K : KH) (ρ : Env) (σ : L2.St) (S : Sto) (H : Hp) : Prop where
  var : ∀ (i : Nat) (w : W), ρ[i]? = some (some w) → ∃ v, σ[i]? = some (some v) ∧ Rep K (fz S H) w v
  len : ρ.length = σ.length
  sto : StoOk K S H
section
variable {K : KH} {ρ : Env} {σ : L2.St} {S S' : Sto} {H H' : Hp}
theorem Sim.to (s : Sim K ρ σ S H) (e : Same (fz S H) (fz S' H')) (k : StoOk K S' H') : Sim K ρ σ S' H' :=
  ⟨fun i w h => let ⟨v, h1, h2⟩ := s.var i w h; ⟨v, h1, h2.mono e⟩, s.len, k⟩
theorem Sim.set {i : Nat} {w : W} {v : V} (s : Sim K ρ σ S H) (r : Rep K (fz S H) w v) : Sim K (ρ.set i (some w)) (σ.set i (some v)) S H := by
  refine ⟨fun j u h => ?_, by rw [List.length_set, List.length_set]; exact s.len, s.sto⟩
  by_cases e : i = j
  · subst e
    by_cases hl : i < ρ.length
    · rw [List.getElem?_set_self hl] at h
      cases h
      exact ⟨v, List.getElem?_set_self (s.len ▸ hl), r⟩
    · rw [List.getElem?_eq_none (by rw [List.length_set]; omega)] at h
      cases h
  · rw [List.getElem?_set_ne e] at h
    obtain ⟨v', h1, h2⟩ := s.var j u h
    exact ⟨v', by rw [List.getElem?_set_ne e]; exact h1, h2⟩
end

/-! ### a hidden thing is changed -/
section
variable {K : KH} {D : Addr} {o : HO}
mutual
theorem Rep.hidden {F F' : Hp} (hD : K.h D = true) (e : ∀ b, b ≠ D → F' b = F b) : ∀ {w : W} {v : V}, Rep K F w v → Rep K F' w v
  | _, _, .non => .non
  | _, _, .bl b => .bl b
  | _, _, .int i => .int i
  | _, _, .str x => .str x
  | _, _, .ref a => .ref a
  | _, _, .tup (a := a) n h r => .tup n (by rw [e a (fun z => by rw [z, hD] at n; cases n)]; exact h) (RepL.hidden hD e r)
  | _, _, .klst h r => .klst h (RepL.hidden hD e r)
  | _, _, .lst (a := a) n h r => .lst n (by
      have ha := e a (fun z => by rw [z, hD] at n; cases n)
      rcases h with h | ⟨o, h⟩
      · exact .inl (by rw [ha]; exact h)
      · exact .inr ⟨o, by rw [ha]; exact h⟩) (RepL.hidden hD e r)
theorem RepL.hidden {F F' : Hp} (hD : K.h D = true) (e : ∀ b, b ≠ D → F' b = F b) : ∀ {ws : List W} {vs : List V}, RepL K F ws vs → RepL K F' ws vs
  | _, _, .nil => .nil
  | _, _, .cons h r => .cons (Rep.hidden hD e h) (RepL.hidden hD e r)
end
theorem KVR.hidden {κ : Type} {F F' : Hp} (hD : K.h D = true) (e : ∀ b, b ≠ D → F' b = F b) {kvs : List (κ × W)} {kv' : List (κ × V)} (r : KVR K F kvs kv') : KVR K F' kvs kv' :=
  Paired.mapP r fun _ _ z => ⟨z.1, z.2.hidden hD e⟩
theorem ObR.hidden {F F' H H' : Hp} {a : Addr} (hD : K.h D = true) (e : ∀ b, b ≠ D → F' b = F b) : ∀ {o : Ob} {u : HO}, ObR K F H a o u → ObR K F' H' a o u
  | .lst _, _, ⟨vs, h, r⟩ => ⟨vs, h, r.hidden hD e⟩
  | .dk _, _, ⟨kv', h, r⟩ => ⟨kv', h, r.hidden hD e⟩
  | .dt _, _, ⟨kv', h, r⟩ => ⟨kv', h, r.hidden hD e⟩
  | .ins _ _, _, ⟨dx, fs', h, r⟩ => ⟨dx, fs', h, r.hidden hD e⟩
  | .lk o _ _, _, ⟨h, r⟩ => ⟨h, ObR.hidden (o := o) hD e r⟩
  | .exn _, _, h => h
theorem fz_hid {S : Sto} {H : Hp} : ∀ b, b ≠ D → fz S (upd H D o) b = fz S H b := fun b hb => by
  unfold fz
  rw [upd_ne hb]
theorem StoOk.hidden {S : Sto} {H : Hp} (k : StoOk K S H) (hD : K.h D = true) (ho : noTup o := by trivial) : StoOk K S (upd H D o) := ⟨fun b u e => by
  obtain ⟨v, hv, q⟩ := k.at' b u e
  have hb : b ≠ D := fun z => by
    subst z
    rw [(k.hid b hD).1] at e; cases e
  exact ⟨v, by rw [upd_ne hb]; exact hv, q.hidden hD fz_hid⟩, fun a h => by
    obtain ⟨h1, u, h2⟩ := k.hid a h
    by_cases z : a = D
    · exact ⟨h1, o, by rw [z, upd_same], ho⟩
    · exact ⟨h1, u, by rw [upd_ne z]; exact h2.1, h2.2⟩⟩
theorem Sim.hidden {ρ : Env} {σ : L2.St} {S : Sto} {H : Hp} (s : Sim K ρ σ S H) (hD : K.h D = true) (ho : noTup o := by trivial) : Sim K ρ σ S (upd H D o) :=
  ⟨fun i w h => let ⟨v, h1, h2⟩ := s.var i w h; ⟨v, h1, h2.hidden hD fz_hid⟩, s.len, s.sto.hidden hD ho⟩
/-- one more is hidden: a new thing that nothing speaks of -/
def KH.more (K : KH) (D : Addr) : KH := ⟨K.K, fun b => K.h b || decide (b = D)⟩
theorem KH.more_at : (K.more D).h D = true := by unfold KH.more; simp
theorem KH.more_ne {b : Addr} (h : K.h b = false) (hb : b ≠ D) : (K.more D).h b = false := by unfold KH.more; simp [h, hb]
theorem KH.of_more {b : Addr} (h : (K.more D).h b = false) : K.h b = false := by
  unfold KH.more at h
  simp at h
  exact h.1
mutual
theorem Rep.hide {F F' : Hp} (hD : F D = none) (e : Same F F') : ∀ {w : W} {v : V}, Rep K F w v → Rep (K.more D) F' w v
  | _, _, .non => .non
  | _, _, .bl b => .bl b
  | _, _, .int i => .int i
  | _, _, .str x => .str x
  | _, _, .ref a => .ref a
  | _, _, .tup n h r => .tup (KH.more_ne n (ne_of_none h hD)) (e _ _ h) (RepL.hide hD e r)
  | _, _, .klst h r => .klst h (RepL.hide hD e r)
  | _, _, .lst (a := a) n h r => .lst (KH.more_ne n (by
      rcases h with h | ⟨o, h⟩
      · exact ne_of_none h hD
      · exact ne_of_none h hD)) (same_rd e h) (RepL.hide hD e r)
theorem RepL.hide {F F' : Hp} (hD : F D = none) (e : Same F F') : ∀ {ws : List W} {vs : List V}, RepL K F ws vs → RepL (K.more D) F' ws vs
  | _, _, .nil => .nil
  | _, _, .cons h r => .cons (Rep.hide hD e h) (RepL.hide hD e r)
end
mutual
theorem Rep.unhide {F : Hp} : ∀ {w : W} {v : V}, Rep (K.more D) F w v → Rep K F w v
  | _, _, .non => .non
  | _, _, .bl b => .bl b
  | _, _, .int i => .int i
  | _, _, .str x => .str x
  | _, _, .ref a => .ref a
  | _, _, .tup n h r => .tup (KH.of_more n) h (RepL.unhide r)
  | _, _, .lst n h r => .lst (KH.of_more n) h (RepL.unhide r)
  | _, _, .klst h r => .klst h (RepL.unhide r)
theorem RepL.unhide {F : Hp} : ∀ {ws : List W} {vs : List V}, RepL (K.more D) F ws vs → RepL K F ws vs
  | _, _, .nil => .nil
  | _, _, .cons h r => .cons (Rep.unhide h) (RepL.unhide r)
end
theorem KVR.hide {κ : Type} {F F' : Hp} (hD : F D = none) (e : Same F F') {kvs : List (κ × W)} {kv' : List (κ × V)} (r : KVR K F kvs kv') : KVR (K.more D) F' kvs kv' :=
  Paired.mapP r fun _ _ z => ⟨z.1, z.2.hide hD e⟩
theorem ObR.hide {F F' H H' : Hp} {a : Addr} (hD : F D = none) (e : Same F F') : ∀ {o : Ob} {u : HO}, ObR K F H a o u → ObR (K.more D) F' H' a o u
  | .lst _, _, ⟨vs, h, r⟩ => ⟨vs, h, r.hide hD e⟩
  | .dk _, _, ⟨kv', h, r⟩ => ⟨kv', h, r.hide hD e⟩
  | .dt _, _, ⟨kv', h, r⟩ => ⟨kv', h, r.hide hD e⟩
  | .ins _ _, _, ⟨dx, fs', h, r⟩ => ⟨dx, fs', h, r.hide hD e⟩
  | .lk o _ _, _, ⟨h, r⟩ => ⟨h, ObR.hide (o := o) hD e r⟩
  | .exn _, _, h => h
theorem KVR.unhide {κ : Type} {F : Hp} {kvs : List (κ × W)} {kv' : List (κ × V)} (r : KVR (K.more D) F kvs kv') : KVR K F kvs kv' :=
  Paired.mapP r fun _ _ z => ⟨z.1, z.2.unhide⟩
theorem ObR.unhide {F H : Hp} {a : Addr} : ∀ {o : Ob} {u : HO}, ObR (K.more D) F H a o u → ObR K F H a o u
  | .lst _, _, ⟨vs, h, r⟩ => ⟨vs, h, r.unhide⟩
  | .dk _, _, ⟨kv', h, r⟩ => ⟨kv', h, r.unhide⟩
  | .dt _, _, ⟨kv', h, r⟩ => ⟨kv', h, r.unhide⟩
  | .ins _ _, _, ⟨dx, fs', h, r⟩ => ⟨dx, fs', h, r.unhide⟩
  | .lk o _ _, _, ⟨h, r⟩ => ⟨h, ObR.unhide (o := o) r⟩
  | .exn _, _, h => h
theorem StoOk.hide {S : Sto} {H : Hp} (k : StoOk K S H) (hD : H D = none) (ho : noTup o := by trivial) : StoOk (K.more D) S (upd H D o) := by
  have hF : fz S H D = none := by
    unfold fz
    split <;> first | rfl | exact hD
  refine ⟨fun b u e => ?_, fun a h => ?_⟩
  · obtain ⟨v, hv, q⟩ := k.at' b u e
    exact ⟨v, by rw [upd_ne (ne_of_none hv hD)]; exact hv, q.hide hF (same_new k hD)⟩
  · by_cases z : a = D
    · subst z
      exact ⟨k.free hD, o, upd_same, ho⟩
    · have h' : K.h a = true := by
        unfold KH.more at h
        simpa [z] using h
      obtain ⟨h1, u, h2, h3⟩ := k.hid a h'
      exact ⟨h1, u, by rw [upd_ne z]; exact h2, h3⟩
theorem Sim.hide {ρ : Env} {σ : L2.St} {S : Sto} {H : Hp} (s : Sim K ρ σ S H) (hD : H D = none) (ho : noTup o := by trivial) : Sim (K.more D) ρ σ S (upd H D o) := by
  have hF : fz S H D = none := by
    unfold fz
    split <;> first | rfl | exact hD
  exact ⟨fun i w h => let ⟨v, h1, h2⟩ := s.var i w h; ⟨v, h1, h2.hide hF (same_new s.sto hD)⟩, s.len, s.sto.hide hD ho⟩
theorem StoOk.unhide {S : Sto} {H : Hp} (k : StoOk (K.more D) S H) : StoOk K S H := ⟨fun b u e => by
  obtain ⟨v, hv, q⟩ := k.at' b u e
  exact ⟨v, hv, q.unhide⟩, fun a h => k.hid a (by unfold KH.more; simp [h])⟩
theorem Sim.unhide {ρ : Env} {σ : L2.St} {S : Sto} {H : Hp} (s : Sim (K.more D) ρ σ S H) : Sim K ρ σ S H :=
  ⟨fun i w h => let ⟨v, h1, h2⟩ := s.var i w h; ⟨v, h1, h2.unhide⟩, s.len, s.sto.unhide⟩
mutual
/-- the hidden ones matter only where something stands -/
theorem Rep.agree {K : KH} {h' : Addr → Bool} {F : Hp} (h : ∀ b o, F b = some o → h' b = K.h b) : ∀ {w : W} {v : V}, Rep K F w v → Rep ⟨K.K, h'⟩ F w v
  | _, _, .non => .non
  | _, _, .bl b => .bl b
  | _, _, .int i => .int i
  | _, _, .str x => .str x
  | _, _, .ref a => .ref a
  | _, _, .tup n e r => .tup (by show h' _ = false; rw [h _ _ e]; exact n) e (RepL.agree h r)
  | _, _, .klst q r => .klst q (RepL.agree h r)
  | _, _, .lst n e r => .lst (by
      rcases e with e | ⟨o, e⟩
      · show h' _ = false; rw [h _ _ e]; exact n
      · show h' _ = false; rw [h _ _ e]; exact n) e (RepL.agree h r)
theorem RepL.agree {K : KH} {h' : Addr → Bool} {F : Hp} (h : ∀ b o, F b = some o → h' b = K.h b) : ∀ {ws : List W} {vs : List V}, RepL K F ws vs → RepL ⟨K.K, h'⟩ F ws vs
  | _, _, .nil => .nil
  | _, _, .cons e r => .cons (Rep.agree h e) (RepL.agree h r)
end
/-- a hidden list becomes a cell -/
theorem Sim.cell {ρ : Env} {σ : L2.St} {S : Sto} {H : Hp} {ws : List W} {vs : List V} (s : Sim (K.more D) ρ σ S H) (nD : K.h D = false) (h : H D = some (.lst vs)) (r : RepL (K.more D) (fz S H) ws vs) : Sim K ρ σ (sup S D (.lst ws)) H := by
  have hS := (s.sto.hid D KH.more_at).1
  have e : ∀ b, b ≠ D → fz (sup S D (.lst ws)) H b = fz S H b := fun b hb => by
    unfold fz
    rw [sup_ne hb]
  refine ⟨fun i w q => ?_, s.len, ⟨fun b u q => ?_, fun a q => ?_⟩⟩
  · obtain ⟨v, h1, h2⟩ := s.var i w q
    exact ⟨v, h1, (h2.hidden KH.more_at e).unhide⟩
  · by_cases hb : b = D
    · subst hb
      rw [sup_same] at q; cases q
      exact ⟨_, h, vs, rfl, (r.hidden KH.more_at e).unhide⟩
    · rw [sup_ne hb] at q
      obtain ⟨v, hv, z⟩ := s.sto.at' b u q
      exact ⟨v, hv, (z.hidden KH.more_at e).unhide⟩
  · obtain ⟨h1, u, h2⟩ := s.sto.hid a (by unfold KH.more; simp [q])
    by_cases z : a = D
    · subst z
      rw [nD] at q; cases q
    · exact ⟨by rw [sup_ne z]; exact h1, u, h2⟩
end
end MP

set_option Elab.async false
set_option linter.all false
set_option maxRecDepth 100000
set_option maxHeartbeats 4000000
/-! MP2: the core language and what it asks (wp), over plain values. -/
namespace MP
open PySem PySem.Spec PyProof.Rows L2

structure Exn where
  cls : Str
  nm : Option W
abbrev WK := W → Sto → Prop
abbrev XC := Exn → Sto → Prop
abbrev WE := Env → Sto → WK → XC → Prop

/-! ### reading values -/
def obL : Ob → Option (List W)
  | .lst ws => some ws
  | .lk (.lst ws) _ _ => some ws
  | _ => none
def rdL (S : Sto) : W → Option (List W)
  | .lst ws => some ws
  | .ref a => (S a).bind obL
  | _ => none
/-- a list or a tuple -/
def rdQ (S : Sto) : W → Option (List W)
  | .tup ws => some ws
  | w => rdL S w
def obK : Ob → Option (List (Key × W))
  | .dk kvs => some kvs
  | .lk (.dk kvs) _ _ => some kvs
  | _ => none
def obT : Ob → Option (List (List Key × W))
  | .dt kvs => some kvs
  | .lk (.dt kvs) _ _ => some kvs
  | _ => none
def keyW : W → Option Key
  | .int i => some (.inl i)
  | .str x => some (.inr x)
  | _ => none
def keysW : List W → Option (List Key)
  | [] => some []
  | w :: ws => (keyW w).bind fun k => (keysW ws).map (k :: ·)
def wKey : Key → W
  | .inl i => .int i
  | .inr x => .str x
section
variable {κ : Type} [DecidableEq κ]
def getK (kvs : List (κ × W)) (k : κ) : Option W := (kvs.find? fun kv => decide (kv.1 = k)).map (·.2)
def setK (kvs : List (κ × W)) (k : κ) (v : W) : List (κ × W) :=
  if (kvs.any fun kv => decide (kv.1 = k)) = true then kvs.map (fun kv => if kv.1 = k then (kv.1, v) else kv) else kvs ++ [(k, v)]
def delK (kvs : List (κ × W)) (k : κ) : List (κ × W) := kvs.filter fun kv => decide (kv.1 ≠ k)
end
/-- what a dict's cell holds at a key: none where the key doesn't fit the dict -/
def rdD (S : Sto) (d k : W) : Option (Option W) :=
  match d with
  | .ref a => (S a).bind fun o =>
    match obK o, obT o, k with
    | some kvs, _, k => (keyW k).map fun k => getK kvs k
    | none, some kvs, .tup ks => (keysW ks).map fun k => getK kvs k
    | _, _, _ => none
  | _ => none

/-! ### truth, equality -/
def truW (S : Sto) : W → Option Bool
  | .non => some false
  | .bl b => some b
  | .int i => some (i != 0)
  | .str x => if x.length ≤ sizeLine then some ((x.length : Int) != 0) else none
  | .tup ws => some !ws.isEmpty
  | .lst ws => some !ws.isEmpty
  | .ref a => (S a).bind fun o => match o with
    | .lst ws => some !ws.isEmpty
    | .dk kvs => some !kvs.isEmpty
    | _ => none
mutual
/-- plain data: no cell within -/
def datW : W → PyData
  | .non => .none
  | .bl b => .bool b
  | .int i => .int i
  | .str x => .str x
  | .tup ws => .tuple (datL ws)
  | .lst ws => .list (datL ws)
  | .ref _ => .none
def datL : List W → List PyData
  | [] => []
  | w :: ws => datW w :: datL ws
end
mutual
/-- a value as data, cells of lists read -/
inductive Vw (S : Sto) : W → PyData → Prop
  | non : Vw S .non .none
  | bl (b : Bool) : Vw S (.bl b) (.bool b)
  | int (i : Int) : Vw S (.int i) (.int i)
  | str (x : Str) : Vw S (.str x) (.str x)
  | tup {ws : List W} {ds : List PyData} : VwL S ws ds → Vw S (.tup ws) (.tuple ds)
  | lst {ws : List W} {ds : List PyData} : VwL S ws ds → Vw S (.lst ws) (.list ds)
  | ref {a : Addr} {ws : List W} {ds : List PyData} : (S a).bind obL = some ws → VwL S ws ds → Vw S (.ref a) (.list ds)
inductive VwL (S : Sto) : List W → List PyData → Prop
  | nil : VwL S [] []
  | cons {w : W} {ws : List W} {d : PyData} {ds : List PyData} : Vw S w d → VwL S ws ds → VwL S (w :: ws) (d :: ds)
end
/-- texts, numbers, truths, None -/
def flatW : W → Bool
  | .non => true
  | .bl _ => true
  | .int _ => true
  | .str _ => true
  | _ => false

/-- a new list: a cell, or frozen -/
def mkL (live : Bool) (ws : List W) (S : Sto) (Q : WK) : Prop :=
  if live = true then ∀ p, S p = none → Q (.ref p) (sup S p (.lst ws)) else Q (.lst ws) S

/-! ### operators by value -/
inductive Bop where
  | add | sub | mul | fdiv | mod | pow
  deriving DecidableEq
def Bop.op : Bop → Operator
  | .add => .Add | .sub => .Sub | .mul => .Mult | .fdiv => .FloorDiv | .mod => .Mod | .pow => .Pow
def bopW (live : Bool) : Bop → W → W → Sto → WK → Prop
  | .add, .int i, .int j, S, Q => Q (.int (i + j)) S
  | .add, .str x, .str y, S, Q => x.length + y.length ≤ sizeLine ∧ Q (.str (x ++ y)) S
  | .add, .tup xs, .tup ys, S, Q => xs.length + ys.length ≤ sizeLine ∧ Q (.tup (xs ++ ys)) S
  | .add, x, y, S, Q => ∃ xs ys, rdL S x = some xs ∧ rdL S y = some ys ∧ xs.length + ys.length ≤ sizeLine ∧ mkL live (xs ++ ys) S Q
  | .sub, .int i, .int j, S, Q => Q (.int (i - j)) S
  | .mul, .int i, .int j, S, Q => CMulW i j ∧ Q (.int (i * j)) S
  | .mul, .str x, .int k, S, Q => (k = 0 ∧ Q (.str Str.empty) S) ∨ (k = 1 ∧ Q (.str x) S) ∨ (k = 2 ∧ 0 < x.length ∧ x.length ≤ 1000 ∧ Q (.str (x ++ x)) S)
  | .mul, x, .int k, S, Q => ∃ xs, rdL S x = some xs ∧ -(2 ^ 63) ≤ k ∧ k < 2 ^ 63 ∧ xs.length * k.toNat ≤ sizeLine ∧ mkL live (List.replicate k.toNat xs).flatten S Q
  | .fdiv, .int i, .int j, S, Q => CDivW i j ∧ Q (.int (i / j)) S
  | .mod, .int i, .int j, S, Q => 0 < j ∧ Q (.int (i % j)) S
  | .pow, .int i, .int j, S, Q => CPow i j ∧ Q (.int (i ^ j.toNat)) S
  | _, _, _, _, _ => False
/-- x is None, True, False -/
def isN : W → Bool
  | .non => true
  | _ => false
def isW : W → W → Option Bool
  | x, .non => some (isN x)
  | .bl a, .bl b => some (decide (a = b))
  | _, _ => none
def eqWk (x y : W) (S : Sto) (Q : Bool → Prop) : Prop :=
  ∃ d e, Vw S x d ∧ Vw S y e ∧ SeqAt.shaped d = true ∧ SeqAt.shaped e = true ∧ Q (PyData.eqv d e)
/-- a text -/
def strB : W → Bool
  | .str _ => true
  | _ => false
/-- x in y -/
def inWk (x y : W) (S : Sto) (Q : Bool → Prop) : Prop :=
  match x, y with
  | .str i, .str j => Q (!(Builtin.Str.occurrences j i 0 j.length 1).isEmpty)
  | x, .tup ws => flatW x = true ∧ ws.all flatW = true ∧ ∃ d ds, Vw S x d ∧ VwL S ws ds ∧ Q (ds.any fun z => PyData.eqv z d)
  | x, y => (∃ ws d ds, rdL S y = some ws ∧ Vw S x d ∧ VwL S ws ds ∧ SeqAt.shaped d = true ∧ SeqAt.shaped (.list ds) = true ∧ Q (ds.any fun z => PyData.eqv z d)) ∨
      (∃ o, rdD S y x = some o ∧ Q o.isSome) ∨ ∃ p kvs ws, x = .ref p ∧ (S p).bind obK = some kvs ∧ rdL S y = some ws ∧ ws.all strB = true ∧ Q false
/-- the order of alike data: d < e, e < d -/
def ordWk (x y : W) (S : Sto) (Q : Bool → Bool → Prop) : Prop :=
  ∃ d e, Vw S x d ∧ Vw S y e ∧ PySem.W.alike d e = true ∧ d ≠ .none ∧ SeqAt.shaped d = true ∧ SeqAt.shaped e = true ∧ Q (PySem.W.dataLt d e) (PySem.W.dataLt e d)
def cmpW : CmpOp → W → W → Sto → (Bool → Prop) → Prop
  | .Lt, .int i, .int j, _, Q => Q (decide (i < j))
  | .LtE, .int i, .int j, _, Q => Q (decide (i ≤ j))
  | .Gt, .int i, .int j, _, Q => Q (decide (j < i))
  | .GtE, .int i, .int j, _, Q => Q (decide (j ≤ i))
  | .Lt, x, y, S, Q => ordWk x y S fun l _ => Q l
  | .LtE, x, y, S, Q => ordWk x y S fun _ g => Q !g
  | .Gt, x, y, S, Q => ordWk x y S fun _ g => Q g
  | .GtE, x, y, S, Q => ordWk x y S fun l _ => Q !l
  | .Eq, x, y, S, Q => eqWk x y S Q
  | .NotEq, x, y, S, Q => eqWk x y S fun b => Q !b
  | .In, x, y, S, Q => inWk x y S Q
  | .NotIn, x, y, S, Q => inWk x y S fun b => Q !b
  | .Is, x, y, _, Q => ∃ b, isW x y = some b ∧ Q b
  | .IsNot, x, y, _, Q => ∃ b, isW x y = some b ∧ Q !b
/-- x[i] -/
def idxW (x i : W) (S : Sto) (Q : WK) : Prop :=
  match x, i with
  | .str z, .int k => z.length ≤ sizeLine ∧ ∃ c, atI z.cps.toList k = some c ∧ Q (.str ⟨#[c]⟩) S
  | .tup ws, .int k => ∃ w, atI ws k = some w ∧ Q w S
  | .lst ws, .int k => ∃ w, atI ws k = some w ∧ Q w S
  | .ref a, i => (∃ ws k w, (S a).bind obL = some ws ∧ i = .int k ∧ atI ws k = some w ∧ Q w S) ∨ ∃ w, rdD S (.ref a) i = some (some w) ∧ Q w S
  | _, _ => False
def cutW (xs : List W) (lo hi : Option Int) : List W := (xs.drop (HT.sIx xs.length 0 lo)).take (HT.sIx xs.length xs.length hi - HT.sIx xs.length 0 lo)
/-- x[lo:hi] -/
def slcW (live : Bool) (x : W) (lo hi : Option Int) (S : Sto) (Q : WK) : Prop :=
  match x with
  | .str z => z.length ≤ sizeLine ∧ Q (.str (cutS z lo hi)) S
  | .tup ws => Q (.tup (cutW ws lo hi)) S
  | x => ∃ ws, rdL S x = some ws ∧ mkL live (cutW ws lo hi) S Q
/-- x[i] = v -/
def setW (x i v : W) (S : Sto) (Q : Sto → Prop) : Prop :=
  ∃ a, x = .ref a ∧
    ((∃ ws k j, S a = some (.lst ws) ∧ i = .int k ∧ ixN ws.length k = some j ∧ Q (sup S a (.lst (ws.set j v)))) ∨
     (∃ kvs k, S a = some (.dk kvs) ∧ keyW i = some k ∧ kvs.length < sizeLine ∧ Q (sup S a (.dk (setK kvs k v)))) ∨
     (∃ kvs ks k, S a = some (.dt kvs) ∧ i = .tup ks ∧ keysW ks = some k ∧ kvs.length < sizeLine ∧ Q (sup S a (.dt (setK kvs k v)))))

/-! ### built-ins by value -/
inductive Blt where
  | len | abs | min2 | min4 | max2 | minL | maxL | maxD | sum | all | any | int | str | list | tuple | sortD | dictK | dictT | listK
  deriving DecidableEq
def intsW : List W → Option (List Int)
  | [] => some []
  | .int i :: ws => (intsW ws).map (i :: ·)
  | _ :: _ => none
def blsW : List W → Option (List Bool)
  | [] => some []
  | .bl i :: ws => (blsW ws).map (i :: ·)
  | _ :: _ => none
def strsW : List W → Option (List Str)
  | [] => some []
  | .str i :: ws => (strsW ws).map (i :: ·)
  | _ :: _ => none
def dLe (a b : W × PyData) : Bool := PySem.W.dataLe false (fun p : W × PyData => p.2) a b
/-- ws in order of ds -/
def sortW (ws : List W) (ds : List PyData) : List W := ((ws.zip ds).mergeSort dLe).map (·.1)
/-- pairs of a key and a value -/
def prK : List W → Option (List (Key × W))
  | [] => some []
  | .tup [k, v] :: ws => (keyW k).bind fun k => (prK ws).map ((k, v) :: ·)
  | _ :: _ => none
def prT : List W → Option (List (List Key × W))
  | [] => some []
  | .tup [.tup ks, v] :: ws => (keysW ks).bind fun k => (prT ws).map ((k, v) :: ·)
  | _ :: _ => none
def putsW {κ : Type} [DecidableEq κ] (acc more : List (κ × W)) : List (κ × W) := more.foldl (fun acc kv => setK acc kv.1 kv.2) acc
def bltW (live : Bool) : Blt → List W → Sto → WK → Prop
  | .len, [.str x], S, Q => x.length ≤ sizeLine ∧ Q (.int x.length) S
  | .len, [x], S, Q => (∃ ws, rdQ S x = some ws ∧ Q (.int ws.length) S) ∨ (∃ a kvs, x = .ref a ∧ (S a).bind obK = some kvs ∧ Q (.int kvs.length) S) ∨ ∃ a kvs, x = .ref a ∧ (S a).bind obT = some kvs ∧ Q (.int kvs.length) S
  | .abs, [.int i], S, Q => Q (.int (if i < 0 then -i else i)) S
  | .min2, [.int i, .int j], S, Q => Q (.int (if j < i then j else i)) S
  | .min4, [.int i, .int j, .int k, .int l], S, Q => ∀ m, m ∈ [i, j, k, l] → (∀ y ∈ [i, j, k, l], m ≤ y) → Q (.int m) S
  | .max2, [.int i, .int j], S, Q => Q (.int (if j > i then j else i)) S
  | .minL, [x], S, Q => ∃ ws ns, rdL S x = some ws ∧ intsW ws = some ns ∧ 0 < ns.length ∧ ∀ m, m ∈ ns → (∀ y, y ∈ ns → m ≤ y) → Q (.int m) S
  | .maxL, [x], S, Q => ∃ ws ns, rdL S x = some ws ∧ intsW ws = some ns ∧ 0 < ns.length ∧ ∀ m, m ∈ ns → (∀ y, y ∈ ns → y ≤ m) → Q (.int m) S
  | .maxD, [x], S, Q => ∃ ws d ds, rdL S x = some ws ∧ VwL S ws (d :: ds) ∧ PySem.W.AlikeAll (d :: ds) ∧ SeqAt.shaped (.list (d :: ds)) = true ∧ ∀ (i : Nat) w, ws[i]? = some w → (d :: ds)[i]? = some (PySem.W.maxD d ds) → Q w S
  | .sum, [x], S, Q => ∃ ws ns, rdL S x = some ws ∧ intsW ws = some ns ∧ Q (.int ns.sum) S
  | .all, [x], S, Q => ∃ ws bs, rdL S x = some ws ∧ blsW ws = some bs ∧ Q (.bl (bs.all id)) S
  | .any, [x], S, Q => ∃ ws bs, rdL S x = some ws ∧ blsW ws = some bs ∧ Q (.bl (bs.any id)) S
  | .int, [.int i], S, Q => Q (.int i) S
  | .int, [.bl b], S, Q => Q (.int (if b then 1 else 0)) S
  | .str, [.int i], S, Q => i.natAbs.log2 < 1920 ∧ Q (.str (toString i)) S
  | .list, [x], S, Q => ∃ ws, rdQ S x = some ws ∧ mkL live ws S Q
  | .tuple, [x], S, Q => ∃ ws, rdQ S x = some ws ∧ Q (.tup ws) S
  | .sortD, [x], S, Q => ∃ ws ds, rdL S x = some ws ∧ VwL S ws ds ∧ PySem.W.AllAlike ds ∧ PySem.W.Sortable ds ∧ SeqAt.shaped (.list ds) = true ∧ mkL live (sortW ws ds) S Q
  | .dictK, [x], S, Q => ∃ ws kvs, rdL S x = some ws ∧ prK ws = some kvs ∧ ∀ p, S p = none → Q (.ref p) (sup S p (.dk (putsW [] kvs)))
  | .dictT, [x], S, Q => ∃ ws kvs, rdL S x = some ws ∧ prT ws = some kvs ∧ ∀ p, S p = none → Q (.ref p) (sup S p (.dt (putsW [] kvs)))
  | .listK, [x], S, Q => ∃ a kvs, x = .ref a ∧ S a = some (.dk kvs) ∧ mkL live (kvs.map fun kv => wKey kv.1) S Q
  | _, _, _, _ => False
def Blt.nm : Blt → Str
  | .len => "len" | .abs => "abs" | .min2 => "min" | .min4 => "min" | .max2 => "max" | .minL => "min" | .maxL => "max" | .maxD => "max" | .sum => "sum" | .all => "all" | .any => "any"
  | .int => "int" | .str => "str" | .list => "list" | .tuple => "tuple" | .sortD => "sorted"
  | .dictK => "dict" | .dictT => "dict" | .listK => "list"

/-! ### methods of lists, dicts, texts by value -/
inductive Mth where
  | append | pop | popAt | extend | clear | join | index | count
  deriving DecidableEq
def Mth.T : Mth → String
  | .append => "list" | .pop => "list" | .popAt => "list" | .extend => "list" | .clear => "list" | .join => "str" | .index => "list" | .count => "list"
/-- what a method's receiver is, ahead of the arguments -/
def rcvW (m : Mth) (x : W) (S : Sto) : Prop :=
  match m.T, x with
  | "str", .str _ => True
  | "list", .ref a => ∃ ws, S a = some (.lst ws)
  | "list", .lst _ => True
  | _, _ => False
def mthW : Mth → W → List W → Sto → WK → Prop
  | .append, .ref a, [y], S, Q => ∃ ws, S a = some (.lst ws) ∧ ws.length < sizeLine ∧ Q .non (sup S a (.lst (ws ++ [y])))
  | .pop, .ref a, [], S, Q => ∃ ws w, S a = some (.lst ws) ∧ ws[ws.length - 1]? = some w ∧ Q w (sup S a (.lst ws.dropLast))
  | .popAt, .ref a, [.int i], S, Q => ∃ ws k w, S a = some (.lst ws) ∧ -(2 ^ 63) ≤ i ∧ i < 2 ^ 63 ∧ seqIndex? i ws.length = some k ∧ ws[k]? = some w ∧ Q w (sup S a (.lst (ws.eraseIdx k)))
  | .clear, .ref a, [], S, Q => ∃ ws, S a = some (.lst ws) ∧ Q .non (sup S a (.lst []))
  | .index, x, [y], S, Q => ∃ ws d ds j z, rdL S x = some ws ∧ VwL S ws ds ∧ Vw S y d ∧ SeqAt.shaped (.list ds) = true ∧ SeqAt.shaped d = true ∧ ds[j]? = some z ∧ PyData.eqv z d = true ∧
      (∀ (m : Nat) (z' : PyData), m < j → ds[m]? = some z' → PyData.eqv z' d = false) ∧ Q (.int (j : Nat)) S
  | .count, x, [y], S, Q => ∃ ws d ds, rdL S x = some ws ∧ VwL S ws ds ∧ Vw S y d ∧ SeqAt.shaped (.list ds) = true ∧ SeqAt.shaped d = true ∧ Q (.int ((ds.countP fun z => PyData.eqv z d : Nat) : Int)) S
  | .extend, .ref a, [y], S, Q => ∃ ws zs, S a = some (.lst ws) ∧ rdL S y = some zs ∧ ws.length + zs.length ≤ sizeLine ∧ Q .non (sup S a (.lst (ws ++ zs)))
  | .join, .str x, [y], S, Q => ∃ ws ss, rdQ S y = some ws ∧ strsW ws = some ss ∧ (ss.map Str.length).sum + ss.length * x.length ≤ 16777216 ∧ Q (.str (Txt.join x ss)) S
  | _, _, _, _, _ => False

/-- kinds of value, as isinstance asks -/
inductive Knd where
  | non | bl | int | str | lst | tup | dct
  deriving DecidableEq
def Knd.nm : Knd → String
  | .non => "NoneType" | .bl => "bool" | .int => "int" | .str => "str" | .lst => "list" | .tup => "tuple" | .dct => "dict"
def kndO : Ob → Option Knd
  | .lst _ => some .lst
  | .dk _ => some .dct
  | .dt _ => some .dct
  | .lk (.lst _) _ _ => some .lst
  | .lk (.dk _) _ _ => some .dct
  | _ => none
def kndW (S : Sto) : W → Option Knd
  | .non => some .non
  | .bl _ => some .bl
  | .int _ => some .int
  | .str _ => some .str
  | .tup _ => some .tup
  | .lst _ => some .lst
  | .ref a => (S a).bind kndO
def subK (k t : Knd) : Bool := decide (k = t) || (decide (k = .bl) && decide (t = .int))
/-! ### the core language -/
inductive CE where
  /-- lists of expressions (arguments, items, targets) -/
  | nil | cons (a as : CE)
  | var (i : Nat)
  | cst (c : Const)
  | glb (x : Str) (c : Const)
  | bin (live : Bool) (op : Bop) (a b : CE)
  | neg (a : CE) | nt (a : CE)
  | cmp (op : CmpOp) (a b : CE) | chain (o1 o2 : CmpOp) (a b c : CE)
  /-- a list of two or more -/
  | an (as : CE) | or (as : CE)
  | ife (t a b : CE)
  | call (f : Nat) (as : CE)
  | blt (b : Blt) (live : Bool) (as : CE)
  | mth (m : Mth) (o as : CE)
  | idx (a b : CE)
  /-- nil: a part left out -/
  | slc (live : Bool) (a lo hi : CE)
  | rev (live : Bool) (a : CE)
  | tup (as : CE) | lst (live : Bool) (as : CE)
  /-- {}: tk, to have tuples for keys; keys and values by turns -/
  | dnew (tk : Bool) | dct (as : CE)
  /-- cond nil: none -/
  | lc (live : Bool) (own : List (Str × Nat)) (tg it cond elt : CE)
  | frz (a : CE)
  /-- list(range(a)) -/
  | lrg (live : Bool) (a : CE)
  /-- list(zip(a, b)) -/
  | lzip (live : Bool) (a b : CE)
  /-- a[::s], s 1 or -1 -/
  | stp (live : Bool) (a s : CE)
  /-- sorted(set(a)), pairs of numbers from 0 to 63 -/
  | sset (live : Bool) (a : CE)
  | isi (a : CE) (t : Knd)
  /-- len(set(a)), a list of tuples -/
  | lset (a : CE)
  /-- len(set(a)), a list of texts -/
  | lsts (a : CE)
  /-- list(d.values()), tuples for keys -/
  | lvals (live : Bool) (a : CE)
  /-- t[1::-1] -/
  | bck (a lo st : CE)
  /-- ghost: a dict's cell is locked meanwhile -/
  | lck (a : CE)
  /-- isinstance(a, x), x an own class of exceptions, a one that is held; ds: what it may be; xs: where it is so -/
  | isc (a : CE) (x : Str) (ds xs : List Str)
  /-- repr of a tuple of three: two without a dict, a dict with tuples for keys -/
  | rpr (a : CE)
  /-- targets -/
  | tnm (i : Nat) | ttup (ts : CE) | tsub (o i : CE)
  /-- what is walked -/
  | iseq (a : CE) | irng1 (a : CE) | irng2 (a b : CE) | irng3 (a b c : CE) | izip (a b : CE) | ienm (a : CE) | ikeys (a : CE)

def cstW : Const → Option W
  | .none => some .non
  | .bool b => some (.bl b)
  | .int i => some (.int i)
  | .str x => some (.str x)
  | _ => none
def wipeW (ρ : Env) : List Nat → Env
  | [] => ρ
  | v :: vs => (wipeW ρ vs).set v none
def sgnW (x : Str) : List W := x.cps.toList.map fun c => W.str ⟨#[c]⟩
/-- what is walked: a list, a tuple, a text -/
def rdI (S : Sto) : W → Option (List W)
  | .str x => some (sgnW x)
  | w => rdQ S w
/-- where a walked list stands: a cell has to stay as it is -/
def srcW (w : W) (all : List W) (S : Sto) : Prop := rdI S w = some all
def wpLc (src : Sto → Prop) (g : W → Env → Sto → (Env → Sto → Prop) → Prop) (t : Env → Sto → (Bool → Sto → Prop) → Prop) (e : Env → Sto → WK → Prop) (ρ : Env) :
    List W → List W → Sto → (List W → Sto → Prop) → Prop
  | [], acc, S, Q => src S ∧ Q acc S
  | x :: xs, acc, S, Q => src S ∧ g x ρ S fun ρ1 S1 => t ρ1 S1 fun b S2 =>
      if b = true then e ρ1 S2 fun y S3 => acc.length < sizeLine ∧ wpLc src g t e ρ xs (acc ++ [y]) S3 Q else wpLc src g t e ρ xs acc S2 Q
def rngW (lo : Int) (n : Nat) : List W := (List.range n).map fun (i : Nat) => W.int (lo + i)
def enmW (n : Nat) : List W → List W
  | [] => []
  | w :: ws => .tup [.int n, w] :: enmW (n + 1) ws
def zipW : List W → List W → List W
  | x :: xs, y :: ys => .tup [x, y] :: zipW xs ys
  | _, _ => []
abbrev XN : XC := fun _ _ => False
def irngW : List W → Sto → ((Sto → Prop) → List W → Sto → Prop) → Prop
  | [.int n], S, Q => -(2 ^ 62) ≤ n ∧ n < 2 ^ 62 ∧ Q (fun _ => True) (rngW 0 n.toNat) S
  | [.int i, .int j], S, Q => (-(2 ^ 62) ≤ i ∧ i < 2 ^ 62 ∧ -(2 ^ 62) ≤ j ∧ j < 2 ^ 62) ∧ Q (fun _ => True) (rngW i (j - i).toNat) S
  | _, _, _ => False
/-- range with a step: n items -/
def irng3W : List W → Sto → ((Sto → Prop) → List W → Sto → Prop) → Prop
  | [.int i, .int j, .int c], S, Q => ∃ n, RgC i j c n ∧ Q (fun _ => True) ((List.range n).map fun (k : Nat) => W.int (i + k * c)) S
  | _, _, _ => False
/-- dict displays: pairs put one after another -/
def putsK : List (Key × W) → List W → Option (List (Key × W))
  | acc, [] => some acc
  | acc, k :: v :: ws => (keyW k).bind fun k => putsK (setK acc k v) ws
  | _, _ => none
def pairW (p : Int × Int) : W := .tup [.int p.1, .int p.2]
def pairsW : List W → Option (List (Int × Int))
  | [] => some []
  | .tup [.int i, .int j] :: ws => (pairsW ws).map ((i, j) :: ·)
  | _ :: _ => none
def lexP (p q : Int × Int) : Prop := p.1 < q.1 ∨ (p.1 = q.1 ∧ p.2 < q.2)
def keyD1 : Key → PyData
  | .inl i => .int i
  | .inr x => .str x
def keyD (k : List Key) : PyData := .tuple (k.map keyD1)
/-- the dict's data: keys and whole numbers, in their order -/
def dtD (kis : List (List Key × Int)) : PyData := .dict (kis.map fun ki => (keyD ki.1, .int ki.2))
def partW : W → Option (Option Int)
  | .int i => some (some i)
  | _ => none


/-- what a piece of the core language asks: as an expression, a test, a slice's part, a list of expressions (an, or), a target, what is walked -/
structure RD where
  e : WE
  t : Env → Sto → (Bool → Sto → Prop) → XC → Prop
  o : Env → Sto → (Option Int → Sto → Prop) → XC → Prop
  es : Env → Sto → (List W → Sto → Prop) → XC → Prop := fun _ _ _ _ => False
  an : WE := fun _ _ _ _ => False
  or : WE := fun _ _ _ _ => False
  ant : Env → Sto → (Bool → Sto → Prop) → XC → Prop := fun _ _ _ _ => False
  ort : Env → Sto → (Bool → Sto → Prop) → XC → Prop := fun _ _ _ _ => False
  c : Env → Sto → (Bool → Sto → Prop) → Prop := fun _ _ _ => False
  g : W → Env → Sto → (Env → Sto → Prop) → Prop := fun _ _ _ _ => False
  gs : List W → Env → Sto → (Env → Sto → Prop) → Prop := fun _ _ _ _ => False
  i : Env → Sto → ((Sto → Prop) → List W → Sto → Prop) → XC → Prop := fun _ _ _ _ => False
  /-- is there something behind (lists) -/
  more : Bool := false
def truK (Q : Bool → Sto → Prop) : WK := fun x S => ∃ b, truW S x = some b ∧ Q b S
def intK (Q : Option Int → Sto → Prop) : WK := fun x S => ∃ i, x = .int i ∧ Q (some i) S
/-- an expression whose truth is asked plainly -/
def rdE (e : WE) : RD where
  e := e
  t := fun ρ S Q X => e ρ S (truK Q) X
  o := fun ρ S Q X => e ρ S (intK Q) X
/-- an expression that has a test of its own -/
def rdT (e : WE) (t : Env → Sto → (Bool → Sto → Prop) → XC → Prop) : RD where
  e := e
  t := t
  o := fun _ _ _ _ => False
def noE : WE := fun _ _ _ _ => False
def noT : Env → Sto → (Bool → Sto → Prop) → XC → Prop := fun _ _ _ _ => False
/-- tuples of numbers and texts -/
def tupsW : List W → Option (List (List Key))
  | [] => some []
  | .tup us :: ws => (keysW us).bind fun k => (tupsW ws).map (k :: ·)
  | _ :: _ => none
/-- the keys of a dict, as they are walked -/
def obKeys : Ob → Option (List W)
  | .dk kvs => some (kvs.map fun kv => wKey kv.1)
  | .dt kvs => some (kvs.map fun kv => .tup (kv.1.map wKey))
  | _ => none
/-- how many (lists) -/
def cntC : CE → Nat
  | .cons _ as => cntC as + 1
  | _ => 0
def wp (Φ : Nat → List W → Sto → WK → XC → Prop) : CE → RD
  | .nil => {
      e := (noE),
      t := (noT),
      o := (fun _ S Q _ => Q none S),
      es := (fun _ S Q _ => Q [] S),
      c := (fun _ S Q => Q true S),
      gs := (fun ws ρ S Q => ws = [] ∧ Q ρ S) }
  | .cons a as => {
      e := (noE),
      t := (noT),
      o := (fun _ _ _ _ => False),
      es := (fun ρ S Q X => (wp Φ a).e ρ S (fun w S1 => (wp Φ as).es ρ S1 (fun ws S2 => Q (w :: ws) S2) X) X),
      an := (fun ρ S Q X => if (wp Φ as).more = true then (wp Φ a).e ρ S (fun x S1 => ∃ b, truW S1 x = some b ∧ if b = true then (wp Φ as).an ρ S1 Q X else Q x S1) X else (wp Φ a).e ρ S Q X),
      or := (fun ρ S Q X => if (wp Φ as).more = true then (wp Φ a).e ρ S (fun x S1 => ∃ b, truW S1 x = some b ∧ if b = true then Q x S1 else (wp Φ as).or ρ S1 Q X) X else (wp Φ a).e ρ S Q X),
      ant := (fun ρ S Q X => if (wp Φ as).more = true then (wp Φ a).t ρ S (fun b S1 => if b = true then (wp Φ as).ant ρ S1 Q X else Q false S1) X else (wp Φ a).t ρ S Q X),
      ort := (fun ρ S Q X => if (wp Φ as).more = true then (wp Φ a).t ρ S (fun b S1 => if b = true then Q true S1 else (wp Φ as).ort ρ S1 Q X) X else (wp Φ a).t ρ S Q X),
      c := (fun ρ S Q => (wp Φ a).t ρ S Q XN),
      gs := (fun ws ρ S Q => ∃ w r, ws = w :: r ∧ (wp Φ a).g w ρ S fun ρ1 S1 => (wp Φ as).gs r ρ1 S1 Q),
      more := (true) }
  | .var i => rdE fun ρ S Q _ => ∃ w, ρ[i]? = some (some w) ∧ Q w S
  | .cst c => rdE fun _ S Q _ => ∃ w, cstW c = some w ∧ Q w S
  | .glb _ c => rdE fun _ S Q _ => ∃ w, cstW c = some w ∧ Q w S
  | .bin live op a b => rdE fun ρ S Q X => (wp Φ a).e ρ S (fun x S1 => (wp Φ b).e ρ S1 (fun y S2 => bopW live op x y S2 Q) X) X
  | .neg a => rdE fun ρ S Q X => (wp Φ a).e ρ S (fun x S1 => ∃ i, x = .int i ∧ Q (.int (-i)) S1) X
  | .nt a => rdT (fun ρ S Q X => (wp Φ a).e ρ S (fun x S1 => ∃ b, truW S1 x = some b ∧ Q (.bl !b) S1) X) fun ρ S Q X => (wp Φ a).t ρ S (fun b S1 => Q (!b) S1) X
  | .cmp op a b => rdT (fun ρ S Q X => (wp Φ a).e ρ S (fun x S1 => (wp Φ b).e ρ S1 (fun y S2 => cmpW op x y S2 fun r => Q (.bl r) S2) X) X)
      fun ρ S Q X => (wp Φ a).e ρ S (fun x S1 => (wp Φ b).e ρ S1 (fun y S2 => cmpW op x y S2 fun r => Q r S2) X) X
  | .chain o1 o2 a b c => rdT (fun ρ S Q X => (wp Φ a).e ρ S (fun x S1 => (wp Φ b).e ρ S1 (fun y S2 => cmpW o1 x y S2 fun r =>
        if r = true then (wp Φ c).e ρ S2 (fun z S3 => cmpW o2 y z S3 fun r2 => Q (.bl r2) S3) X else Q (.bl false) S2) X) X)
      fun ρ S Q X => (wp Φ a).e ρ S (fun x S1 => (wp Φ b).e ρ S1 (fun y S2 => cmpW o1 x y S2 fun r =>
        if r = true then (wp Φ c).e ρ S2 (fun z S3 => cmpW o2 y z S3 fun r2 => Q r2 S3) X else Q false S2) X) X
  | .an as => rdT (wp Φ as).an (wp Φ as).ant
  | .or as => rdT (wp Φ as).or (wp Φ as).ort
  | .ife t a b => rdT (fun ρ S Q X => (wp Φ t).t ρ S (fun r S1 => if r = true then (wp Φ a).e ρ S1 Q X else (wp Φ b).e ρ S1 Q X) X) noT
  | .call f as => rdE fun ρ S Q X => (wp Φ as).es ρ S (fun ws S1 => Φ f ws S1 Q X) X
  | .blt b live as => rdE fun ρ S Q X => (wp Φ as).es ρ S (fun ws S1 => bltW live b ws S1 Q) X
  | .mth m o as => rdE fun ρ S Q X => (wp Φ o).e ρ S (fun x S1 => rcvW m x S1 ∧ (wp Φ as).es ρ S1 (fun ws S2 => mthW m x ws S2 Q) X) X
  | .idx a b => rdE fun ρ S Q X => (wp Φ a).e ρ S (fun x S1 => (wp Φ b).e ρ S1 (fun y S2 => idxW x y S2 Q) X) X
  | .slc live a lo hi => rdE fun ρ S Q X => (wp Φ a).e ρ S (fun x S1 => (wp Φ lo).o ρ S1 (fun l S2 => (wp Φ hi).o ρ S2 (fun u S3 => slcW live x l u S3 Q) X) X) X
  | .rev live a => rdE fun ρ S Q X => (wp Φ a).e ρ S (fun x S1 => ∃ ws, rdL S1 x = some ws ∧ mkL live ws.reverse S1 Q) X
  | .tup as => rdE fun ρ S Q X => (wp Φ as).es ρ S (fun ws S1 => ws.length ≤ sizeLine ∧ Q (.tup ws) S1) X
  | .lst live as => rdE fun ρ S Q X => (wp Φ as).es ρ S (fun ws S1 => ws.length ≤ sizeLine ∧ mkL live ws S1 Q) X
  | .dnew tk => rdE fun _ S Q _ => ∀ p, S p = none → Q (.ref p) (sup S p (if tk = true then .dt [] else .dk []))
  | .dct as => rdE fun ρ S Q X => (wp Φ as).es ρ S (fun ws S1 => ∃ kvs, putsK [] ws = some kvs ∧ ws.length ≤ 30 ∧ ∀ p, S1 p = none → Q (.ref p) (sup S1 p (.dk kvs))) X
  | .lc live own tg it cond elt => rdE fun ρ S Q X => (wp Φ it).i ρ S (fun src items S1 =>
      wpLc src (wp Φ tg).g (wp Φ cond).c (fun ρ1 S2 Q1 => (wp Φ elt).e ρ1 S2 Q1 XN) (wipeW ρ (own.map (·.2))) items [] S1 fun ws S2 => mkL live ws S2 Q) X
  | .frz a => rdE fun ρ S Q X => (wp Φ a).e ρ S (fun x S1 => ∃ p ws, x = .ref p ∧ S1 p = some (.lst ws) ∧ Q (.lst ws) (sdel S1 p)) X
  | .lrg live a => rdE fun ρ S Q X => (wp Φ a).e ρ S (fun x S1 => ∃ j, x = .int j ∧ 0 ≤ j ∧ j ≤ 16777216 ∧ mkL live (rngW 0 j.toNat) S1 Q) X
  | .lzip live a b => rdE fun ρ S Q X => (wp Φ a).e ρ S (fun x S1 => (wp Φ b).e ρ S1 (fun y S2 => ∃ xs ys, rdL S2 x = some xs ∧ rdL S2 y = some ys ∧ mkL live (zipW xs ys) S2 Q) X) X
  | .stp live a s => rdE fun ρ S Q X => (wp Φ a).e ρ S (fun x S1 => (wp Φ s).e ρ S1 (fun y S2 => ∃ ws k, rdL S2 x = some ws ∧ y = .int k ∧ ((k = 1 ∧ mkL live ws S2 Q) ∨ (k = -1 ∧ mkL live ws.reverse S2 Q))) X) X
  | .sset live a => rdE fun ρ S Q X => (wp Φ a).e ρ S (fun x S1 => ∃ ws ks, rdL S1 x = some ws ∧ pairsW ws = some ks ∧ ks.length < 64 ∧ (∀ p ∈ ks, (0 ≤ p.1 ∧ p.1 < 64) ∧ (0 ≤ p.2 ∧ p.2 < 64)) ∧
      ∀ ks' : List (Int × Int), ks'.Pairwise lexP → (∀ p, p ∈ ks' ↔ p ∈ ks) → mkL live (ks'.map pairW) S1 Q) X
  | .rpr a => rdE fun ρ S Q X => (wp Φ a).e ρ S (fun x S1 => ∃ t d p dt dd kis, x = .tup [t, d, .ref p] ∧ Vw S1 t dt ∧ Vw S1 d dd ∧ (S1 p).bind obT = some (kis.map fun ki => (ki.1, W.int ki.2)) ∧ dt.canLay0 = true ∧ dd.canLay0 = true ∧
      dt.showable = true ∧ dd.showable = true ∧ (dtD kis).showable = true ∧ (PyData.tuple [dt, dd, dtD kis]).shown.length ≤ sizeLine ∧ (PyData.tuple [dt, dd, dtD kis]).depth ≤ 60 ∧ Q (.str (PyData.tuple [dt, dd, dtD kis]).shown) S1) X
  | .isi a t => rdE fun ρ S Q X => (wp Φ a).e ρ S (fun x S1 => ∃ k, kndW S1 x = some k ∧ Q (.bl (subK k t)) S1) X
  | .lset a => rdE fun ρ S Q X => (wp Φ a).e ρ S (fun x S1 => ∃ ws ks, rdL S1 x = some ws ∧ tupsW ws = some ks ∧ ws.length < 256 ∧ ∀ L : List (List Key), L.Nodup → (∀ k, k ∈ L ↔ k ∈ ks) → Q (.int L.length) S1) X
  | .lsts a => rdE fun ρ S Q X => (wp Φ a).e ρ S (fun x S1 => ∃ ws ss, rdL S1 x = some ws ∧ strsW ws = some ss ∧ ws.length < 256 ∧ ∀ L : List Str, L.Nodup → (∀ k, k ∈ L ↔ k ∈ ss) → Q (.int L.length) S1) X
  | .lvals live a => rdE fun ρ S Q X => (wp Φ a).e ρ S (fun x S1 => ∃ p kvs, x = .ref p ∧ (S1 p).bind obT = some kvs ∧ mkL live (kvs.map (·.2)) S1 Q) X
  | .bck a lo st => rdE fun ρ S Q X => (wp Φ a).e ρ S (fun x S1 => (wp Φ lo).e ρ S1 (fun l S2 => l = .int 1 ∧ (wp Φ st).e ρ S2 (fun o S3 => o = .int (-1) ∧ ∃ u v r, x = .tup (u :: v :: r) ∧ Q (.tup [v, u]) S3) X) X) X
  | .isc a _ ds xs => rdE fun ρ S Q X => (wp Φ a).e ρ S (fun w S1 => ∃ p c, w = .ref p ∧ S1 p = some (.exn c) ∧ c ∈ ds ∧ Q (.bl (decide (c ∈ xs))) S1) X
  | .lck a => rdE fun ρ S Q X => ∃ p o ks, S p = some o ∧ obKeys o = some ks ∧ ∀ od u, (wp Φ a).e ρ (sup S p (.lk o od u)) (fun w S2 => S2 p = some (.lk o od u) ∧ Q w (sup S2 p o)) XN
  | .tnm i => {
      e := (noE),
      t := (noT),
      o := (fun _ _ _ _ => False),
      g := (fun w ρ S Q => Q (ρ.set i (some w)) S) }
  | .ttup ts => {
      e := (noE),
      t := (noT),
      o := (fun _ _ _ _ => False),
      g := (fun w ρ S Q => ∃ ws, rdQ S w = some ws ∧ ws.length = cntC ts ∧ (wp Φ ts).gs ws ρ S Q) }
  | .tsub o i => {
      e := (noE),
      t := (noT),
      o := (fun _ _ _ _ => False),
      g := (fun w ρ S Q => (wp Φ o).e ρ S (fun x S1 => (wp Φ i).e ρ S1 (fun k S2 => setW x k w S2 fun S3 => Q ρ S3) XN) XN) }
  | .iseq a => {
      e := (noE),
      t := (noT),
      o := (fun _ _ _ _ => False),
      i := (fun ρ S Q X => (wp Φ a).e ρ S (fun x S1 => ∃ ws, rdI S1 x = some ws ∧ Q (srcW x ws) ws S1) X) }
  | .irng1 a => {
      e := (noE),
      t := (noT),
      o := (fun _ _ _ _ => False),
      i := (fun ρ S Q X => (wp Φ a).e ρ S (fun x S1 => irngW [x] S1 Q) X) }
  | .irng2 a b => {
      e := (noE),
      t := (noT),
      o := (fun _ _ _ _ => False),
      i := (fun ρ S Q X => (wp Φ a).e ρ S (fun x S1 => (wp Φ b).e ρ S1 (fun y S2 => irngW [x, y] S2 Q) X) X) }
  | .irng3 a b c => {
      e := (noE),
      t := (noT),
      o := (fun _ _ _ _ => False),
      i := (fun ρ S Q X => (wp Φ a).e ρ S (fun x S1 => (wp Φ b).e ρ S1 (fun y S2 => (wp Φ c).e ρ S2 (fun z S3 => irng3W [x, y, z] S3 Q) X) X) X) }
  | .izip a b => {
      e := (noE),
      t := (noT),
      o := (fun _ _ _ _ => False),
      i := (fun ρ S Q X => (wp Φ a).e ρ S (fun x S1 => (wp Φ b).e ρ S1 (fun y S2 => ∃ xs ys, rdL S2 x = some xs ∧ rdL S2 y = some ys ∧
        Q (fun S => rdL S x = some xs ∧ rdL S y = some ys) (zipW xs ys) S2) X) X) }
  | .ienm a => {
      e := (noE),
      t := (noT),
      o := (fun _ _ _ _ => False),
      i := (fun ρ S Q X => (wp Φ a).e ρ S (fun x S1 => ∃ xs, rdL S1 x = some xs ∧ Q (fun S => rdL S x = some xs) (enmW 0 xs) S1) X) }
  | .ikeys a => {
      e := (noE),
      t := (noT),
      o := (fun _ _ _ _ => False),
      i := (fun ρ S Q X => (wp Φ a).e ρ S (fun x S1 => ∃ p o od u ks, x = .ref p ∧ S1 p = some (.lk o od u) ∧ obKeys o = some ks ∧ Q (fun S => S p = some (.lk o od u)) ks S1) X) }

/-! ### statements -/
structure WEnds where
  nx : Env → Sto → Prop
  rt : WK
  bk : Env → Sto → Prop := fun _ _ => False
  ct : Env → Sto → Prop := fun _ _ => False
  xc : XC := fun _ _ => False
abbrev WS := Env → Sto → WEnds → Prop
inductive CS where
  | nil | seq (s r : CS)
  | asg (t e : CE)
  | par (is : List Nat) (es : CE)
  /-- of ints; sb: -= -/
  | aug (i : Nat) (sb : Bool) (e : CE)
  | augS (o i : CE) (sb : Bool) (e : CE)
  | expr (e : CE)
  | ret (e : CE) | retN
  | iff (t : CE) (a b : CS)
  | fr (t it : CE) (b : CS)
  | whl (t : CE) (b : CS)
  | cont | pass | brk
  /-- ghost: the list in a slot is frozen; cells are forgotten -/
  | gfrz (i : Nat)
  /-- ghost: a tuple of two lists: both are frozen -/
  | gfr2 (i : Nat)
  /-- ghost: cells are forgotten -/
  | gdrop
  | never
  /-- raise x('m'), x a class's name -/
  | rse (x m : Str)
  /-- try: t = e / except x as n: m = n; n, m the slots i, j; xs: the classes that may come -/
  | tca (i j : Nat) (x : Str) (xs : List Str) (t e : CE)
def wpFor (src : Sto → Prop) (g : W → Env → Sto → (Env → Sto → Prop) → Prop) (b : WS) : List W → Env → Sto → WEnds → Prop
  | [], ρ, S, D => src S ∧ D.nx ρ S
  | x :: xs, ρ, S, D => src S ∧ g x ρ S fun ρ1 S1 => b ρ1 S1 { D with nx := fun ρ2 S2 => wpFor src g b xs ρ2 S2 D, ct := fun ρ2 S2 => wpFor src g b xs ρ2 S2 D, bk := D.nx }
def setAll (ρ : Env) : List Nat → List W → Env
  | i :: is, w :: ws => setAll (ρ.set i (some w)) is ws
  | _, _ => ρ
def augI (sb : Bool) (a b : Int) : Int := if sb = true then a - b else a + b
def wps (Φ : Nat → List W → Sto → WK → XC → Prop) : CS → WS
  | .nil => fun ρ S D => D.nx ρ S
  | .seq s r => fun ρ S D => wps Φ s ρ S { D with nx := fun ρ1 S1 => wps Φ r ρ1 S1 D }
  | .asg t e => fun ρ S D => (wp Φ e).e ρ S (fun w S1 => (wp Φ t).g w ρ S1 D.nx) D.xc
  | .par is es => fun ρ S D => (wp Φ es).es ρ S (fun ws S1 => ws.length = is.length ∧ D.nx (setAll ρ is ws) S1) D.xc
  | .aug i op e => fun ρ S D => ∃ x, ρ[i]? = some (some x) ∧ (wp Φ e).e ρ S (fun y S1 => ∃ a b, x = .int a ∧ y = .int b ∧ D.nx (ρ.set i (some (.int (augI op a b)))) S1) D.xc
  | .augS o i op e => fun ρ S D => (wp Φ o).e ρ S (fun x S1 => (wp Φ i).e ρ S1 (fun k S2 => (∃ a, x = .ref a) ∧ idxW x k S2 fun v S3 => (wp Φ e).e ρ S3 (fun y S4 =>
      ∃ a b, v = .int a ∧ y = .int b ∧ setW x k (.int (augI op a b)) S4 fun S6 => D.nx ρ S6) D.xc) D.xc) D.xc
  | .expr e => fun ρ S D => (wp Φ e).e ρ S (fun _ S1 => D.nx ρ S1) D.xc
  | .ret e => fun ρ S D => (wp Φ e).e ρ S D.rt D.xc
  | .retN => fun _ S D => D.rt .non S
  | .iff t a b => fun ρ S D => (wp Φ t).t ρ S (fun r S1 => if r = true then wps Φ a ρ S1 D else wps Φ b ρ S1 D) D.xc
  | .fr t it b => fun ρ S D => (wp Φ it).i ρ S (fun src items S1 => wpFor src (wp Φ t).g (wps Φ b) items ρ S1 D) D.xc
  | .whl t b => fun ρ S D => ∃ I : Nat → Env → Sto → Prop, (∃ m, I m ρ S) ∧ ∀ m ρ S, I m ρ S → (wp Φ t).t ρ S (fun r S1 =>
      if r = true then wps Φ b ρ S1 { D with nx := fun ρ2 S2 => ∃ m', m' < m ∧ I m' ρ2 S2, ct := fun ρ2 S2 => ∃ m', m' < m ∧ I m' ρ2 S2, bk := D.nx } else D.nx ρ S1) D.xc
  | .cont => fun ρ S D => D.ct ρ S
  | .brk => fun ρ S D => D.bk ρ S
  | .pass => fun ρ S D => D.nx ρ S
  | .gfrz i => fun ρ S D => ∃ p ws, ρ[i]? = some (some (.ref p)) ∧ S p = some (.lst ws) ∧ D.nx (ρ.set i (some (.lst ws))) (sdel S p)
  | .gfr2 i => fun ρ S D => ∃ p q xs ys, ρ[i]? = some (some (.tup [.ref p, .ref q])) ∧ S p = some (.lst xs) ∧ S q = some (.lst ys) ∧ p ≠ q ∧ D.nx (ρ.set i (some (.tup [.lst xs, .lst ys]))) (sdel (sdel S p) q)
  | .gdrop => fun ρ S D => ∃ S', Fewer S' S ∧ D.nx ρ S'
  | .never => fun _ _ _ => False
  | .rse x _ => fun _ S D => D.xc ⟨x, none⟩ S
  | .tca i j _ xs t e => fun ρ S D => (wp Φ e).e ρ S (fun w S1 => (wp Φ t).g w ρ S1 D.nx) (fun ex S1 => ex.nm = none ∧ ex.cls ∈ xs ∧ ∀ p, S1 p = none → D.nx ((ρ.set j (some (.ref p))).set i none) (sup S1 p (.exn ex.cls)))
end MP

set_option Elab.async false
set_option linter.all false
set_option maxRecDepth 100000
set_option maxHeartbeats 4000000
/-! MP3: the readings of the core language as the layer's; operators by value. -/
namespace MP
open PySem PySem.Spec PyProof.Rows L2

/-! ### readings as the layer's -/
def XRep (K : KH) (F H : Hp) (x : Exn) (d : Option Addr) : Prop :=
  match x.nm with
  | none => d = none
  | some w => ∃ dd v, d = some dd ∧ H dd = some (.xd [("name", v)]) ∧ Rep K F w v
/-- what is wanted of an exception -/
def XCk (K : KH) (E : XK) (S : Sto) (H : Hp) (X : XC) : Prop :=
  ∀ x S' H' d, StoOk K S' H' → Same (fz S H) (fz S' H') → XRep K (fz S' H') H' x d → X x S' → E (.ref (clsA K.K x.cls)) d H'
section
variable {K : KH} {E : XK} {S S' : Sto} {H H' : Hp} {X : XC}
theorem XCk.to (h : XCk K E S H X) (e : Same (fz S H) (fz S' H')) : XCk K E S' H' X := fun x S2 H2 d k q r h1 => h x S2 H2 d k (e.trans q) r h1
theorem XCk.no : XCk K E S H XN := fun _ _ _ _ _ _ _ h => h.elim
end
structure Ctx where
  K : KH
  E : L2.St → XK
structure Ct0 where
  K : PySem.W.Frag
  E : L2.St → XK
abbrev Ct0.at (c : Ct0) (h : Addr → Bool) : Ctx := ⟨⟨c.K, h⟩, c.E⟩
/-- a value's wish -/
def Kv (C : Ctx) (ρ : Env) (σ : L2.St) (S : Sto) (H : Hp) (Q : WK) (Q' : VK) : Prop :=
  ∀ w S' v H', Sim C.K ρ σ S' H' → Same (fz S H) (fz S' H') → Rep C.K (fz S' H') w v → Q w S' → Q' v H'
def tOf (c : Ct0) (e : WE) : TE := fun σ H Q' => ∃ h ρ S Q X, Sim (c.at h).K ρ σ S H ∧ e ρ S Q X ∧ Kv (c.at h) ρ σ S H Q Q' ∧ XCk (c.at h).K (c.E σ) S H X
def tOfT (c : Ct0) (t : Env → Sto → (Bool → Sto → Prop) → XC → Prop) : TT := fun σ H Q' => ∃ h ρ S Q X, Sim (c.at h).K ρ σ S H ∧ t ρ S Q X ∧
  (∀ b S' H', Sim (c.at h).K ρ σ S' H' → Same (fz S H) (fz S' H') → Q b S' → Q' b H') ∧ XCk (c.at h).K (c.E σ) S H X
def tOfA (c : Ct0) (es : Env → Sto → (List W → Sto → Prop) → XC → Prop) : TA := fun σ H Q' => ∃ h ρ S Q X, Sim (c.at h).K ρ σ S H ∧ es ρ S Q X ∧
  (∀ ws S' vs H', Sim (c.at h).K ρ σ S' H' → Same (fz S H) (fz S' H') → RepL (c.at h).K (fz S' H') ws vs → Q ws S' → Q' vs H') ∧ XCk (c.at h).K (c.E σ) S H X
def tOfO (c : Ct0) (o : Env → Sto → (Option Int → Sto → Prop) → XC → Prop) : TO := fun σ H Q' => ∃ h ρ S Q X, Sim (c.at h).K ρ σ S H ∧ o ρ S Q X ∧
  (∀ i S' H', Sim (c.at h).K ρ σ S' H' → Same (fz S H) (fz S' H') → Q i S' → Q' i H') ∧ XCk (c.at h).K (c.E σ) S H X
/-- a target: al, the slots it may change -/
def Al (al : List Nat) (σ σ' : L2.St) : Prop := σ'.length = σ.length ∧ ∀ j, j ∉ al → σ'[j]? = σ[j]?
def tOfG (c : Ct0) (al : List Nat) (g : W → Env → Sto → (Env → Sto → Prop) → Prop) : TG := fun v σ H Q' => ∃ h w ρ S Q, Sim (c.at h).K ρ σ S H ∧ Rep (c.at h).K (fz S H) w v ∧ g w ρ S Q ∧
  (∀ ρ' S' σ' H', Sim (c.at h).K ρ' σ' S' H' → Same (fz S H) (fz S' H') → Al al σ σ' → Q ρ' S' → Q' σ' H')
def tOfGs (c : Ct0) (al : List Nat) (g : List W → Env → Sto → (Env → Sto → Prop) → Prop) : TGs := fun vs σ H Q' => ∃ h ws ρ S Q, Sim (c.at h).K ρ σ S H ∧ RepL (c.at h).K (fz S H) ws vs ∧ g ws ρ S Q ∧
  (∀ ρ' S' σ' H', Sim (c.at h).K ρ' σ' S' H' → Same (fz S H) (fz S' H') → Al al σ σ' → Q ρ' S' → Q' σ' H')
theorem Al.refl {al : List Nat} {σ : L2.St} : Al al σ σ := ⟨rfl, fun _ _ => rfl⟩
theorem Al.trans {al : List Nat} {σ σ1 σ2 : L2.St} (a : Al al σ σ1) (b : Al al σ1 σ2) : Al al σ σ2 := ⟨b.1.trans a.1, fun j h => (b.2 j h).trans (a.2 j h)⟩
theorem Al.mono {al al' : List Nat} {σ σ1 : L2.St} (a : Al al σ σ1) (h : ∀ j ∈ al, j ∈ al') : Al al' σ σ1 := ⟨a.1, fun j hj => a.2 j fun z => hj (h j z)⟩
theorem Al.set {i : Nat} {σ : L2.St} {x : Option V} : Al [i] σ (σ.set i x) := ⟨List.length_set, fun j h => by
  rw [List.getElem?_set_ne]
  intro e; exact h (by rw [e]; exact List.mem_singleton.mpr rfl)⟩

theorem PE.imp {X : Cx} {e : Expr} {t t' : TE} (h : PE X e t) (i : ∀ σ H Q, t' σ H Q → t σ H Q) : PE X e t' := ⟨fun pins s σ H Q I q => h.run pins s σ H Q I (i σ H Q q)⟩
theorem PT.imp {X : Cx} {e : Expr} {t t' : TT} (h : PT X e t) (i : ∀ σ H Q, t' σ H Q → t σ H Q) : PT X e t' := ⟨fun pins s σ H Q I q => h.run pins s σ H Q I (i σ H Q q)⟩
theorem PW.imp {X : Cx} {e : Expr} {t t' : TT} (h : PW X e t) (i : ∀ σ H Q, t' σ H Q → t σ H Q) : PW X e t' := ⟨fun wh pins s σ H Q I q => h.run wh pins s σ H Q I (i σ H Q q)⟩
theorem PA.imp {X : Cx} {e : List Expr} {t t' : TA} (h : PA X e t) (i : ∀ σ H Q, t' σ H Q → t σ H Q) : PA X e t' := ⟨fun p pins s σ H Q I q => h.run p pins s σ H Q I (i σ H Q q)⟩
theorem PO.imp {X : Cx} {e : Option Expr} {t t' : TO} (h : PO X e t) (i : ∀ σ H Q, t' σ H Q → t σ H Q) : PO X e t' := ⟨fun pins s σ H Q I q => h.run pins s σ H Q I (i σ H Q q)⟩
theorem PG.imp {X : Cx} {e : Expr} {t t' : TG} (h : PG X e t) (i : ∀ v σ H Q, t' v σ H Q → t v σ H Q) : PG X e t' := ⟨fun pins s σ H v u Q I r q => h.run pins s σ H v u Q I r (i v σ H Q q)⟩
theorem PGs.imp {X : Cx} {e : List Expr} {t t' : TGs} (h : PGs X e t) (i : ∀ v σ H Q, t' v σ H Q → t v σ H Q) : PGs X e t' := ⟨fun pins s σ H v u Q I r q => h.run pins s σ H v u Q I r (i v σ H Q q)⟩
theorem PS.imp {X : Cx} {e : Stmt} {t t' : TS} (h : PS X e t) (i : ∀ D σ H, t' D σ H → t D σ H) : PS X e t' := ⟨fun pins s σ H D I q => h.run pins s σ H D I (i D σ H q)⟩
theorem PSs.imp {X : Cx} {e : List Stmt} {t t' : TS} (h : PSs X e t) (i : ∀ D σ H, t' D σ H → t D σ H) : PSs X e t' := ⟨fun pins s σ H D I q => h.run pins s σ H D I (i D σ H q)⟩

/-! ### values read -/
section
variable {K : KH} {S : Sto} {H : Hp} {w x y : W} {v vx vy : V} {ws : List W}
theorem rd_obL {a : Addr} {o : Ob} {u : HO} {ws : List W} (r : ObR K (fz S H) H a o u) (e : obL o = some ws) : ∃ vs, (u = .lst vs ∨ ∃ od, u = .frz od (.lst vs)) ∧ RepL K (fz S H) ws vs := by
  cases o with
  | lst us =>
    cases e
    obtain ⟨vs, h, r⟩ := r
    exact ⟨vs, .inl h, r⟩
  | lk o od u' =>
    cases o with
    | lst us =>
      cases e
      obtain ⟨h, vs, h2, r⟩ := r
      exact ⟨vs, .inr ⟨od, by rw [h, h2]⟩, r⟩
    | _ => cases e
  | _ => cases e
theorem rd_obK {a : Addr} {o : Ob} {u : HO} {ws : List (Key × W)} (r : ObR K (fz S H) H a o u) (e : obK o = some ws) : ∃ vs, (u = .dK vs ∨ ∃ od, u = .frz od (.dK vs)) ∧ KVR K (fz S H) ws vs := by
  cases o with
  | dk us =>
    cases e
    obtain ⟨vs, h, r⟩ := r
    exact ⟨vs, .inl h, r⟩
  | lk o od u' =>
    cases o with
    | dk us =>
      cases e
      obtain ⟨h, vs, h2, r⟩ := r
      exact ⟨vs, .inr ⟨od, by rw [h, h2]⟩, r⟩
    | _ => cases e
  | _ => cases e
theorem rd_obT {a : Addr} {o : Ob} {u : HO} {ws : List (List Key × W)} (r : ObR K (fz S H) H a o u) (e : obT o = some ws) : ∃ vs, (u = .dT vs ∨ ∃ od, u = .frz od (.dT vs)) ∧ KVR K (fz S H) ws vs := by
  cases o with
  | dt us =>
    cases e
    obtain ⟨vs, h, r⟩ := r
    exact ⟨vs, .inl h, r⟩
  | lk o od u' =>
    cases o with
    | dt us =>
      cases e
      obtain ⟨h, vs, h2, r⟩ := r
      exact ⟨vs, .inr ⟨od, by rw [h, h2]⟩, r⟩
    | _ => cases e
  | _ => cases e
theorem cell_obL {a : Addr} (k : StoOk K S H) (h : (S a).bind obL = some ws) : ∃ vs, Rd H a (.lst vs) ∧ RepL K (fz S H) ws vs := by
  cases e : S a with
  | none => rw [e] at h; cases h
  | some o =>
    rw [e] at h
    obtain ⟨u, hu, r⟩ := k.at' a o e
    obtain ⟨vs, h1, h2⟩ := rd_obL r h
    rcases h1 with h1 | ⟨od, h1⟩
    · exact ⟨vs, .inl (h1 ▸ hu), h2⟩
    · exact ⟨vs, .inr ⟨od, h1 ▸ hu⟩, h2⟩
theorem cell_obK {a : Addr} {kvs : List (Key × W)} (k : StoOk K S H) (h : (S a).bind obK = some kvs) : ∃ vs, Rd H a (.dK vs) ∧ KVR K (fz S H) kvs vs := by
  cases e : S a with
  | none => rw [e] at h; cases h
  | some o =>
    rw [e] at h
    obtain ⟨u, hu, r⟩ := k.at' a o e
    obtain ⟨vs, h1, h2⟩ := rd_obK r h
    rcases h1 with h1 | ⟨od, h1⟩
    · exact ⟨vs, .inl (h1 ▸ hu), h2⟩
    · exact ⟨vs, .inr ⟨od, h1 ▸ hu⟩, h2⟩
theorem cell_obT {a : Addr} {kvs : List (List Key × W)} (k : StoOk K S H) (h : (S a).bind obT = some kvs) : ∃ vs, Rd H a (.dT vs) ∧ KVR K (fz S H) kvs vs := by
  cases e : S a with
  | none => rw [e] at h; cases h
  | some o =>
    rw [e] at h
    obtain ⟨u, hu, r⟩ := k.at' a o e
    obtain ⟨vs, h1, h2⟩ := rd_obT r h
    rcases h1 with h1 | ⟨od, h1⟩
    · exact ⟨vs, .inl (h1 ▸ hu), h2⟩
    · exact ⟨vs, .inr ⟨od, h1 ▸ hu⟩, h2⟩
/-- a list is read -/
theorem rdL_sq (k : StoOk K S H) (r : Rep K (fz S H) w v) (h : rdL S w = some ws) : ∃ a vs, v = .ref a ∧ SqR K.K H a vs ∧ RepL K (fz S H) ws vs := by
  cases w with
  | lst us =>
    cases h
    cases r with
    | lst _ h1 h2 => exact ⟨_, _, rfl, .inl (same_rd fz_sub h1), h2⟩
    | klst h1 h2 => exact ⟨_, _, rfl, .inr h1, h2⟩
  | ref a =>
    cases r
    obtain ⟨vs, h1, h2⟩ := cell_obL k h
    exact ⟨a, vs, rfl, .inl h1, h2⟩
  | _ => cases h
theorem rdQ_sq (k : StoOk K S H) (r : Rep K (fz S H) w v) (h : rdQ S w = some ws) : ∃ a vs, v = .ref a ∧ (SqL K.K H a vs ∨ SqT K.K H a vs) ∧ RepL K (fz S H) ws vs := by
  cases w with
  | tup us =>
    cases h
    cases r with
    | tup _ h1 h2 => exact ⟨_, _, rfl, .inr (.inl (.inl (fz_sub _ _ h1))), h2⟩
  | lst us =>
    obtain ⟨a, vs, e, h1, h2⟩ := rdL_sq k r (show rdL S (.lst us) = some ws from h)
    exact ⟨a, vs, e, .inl h1.sq, h2⟩
  | ref a =>
    obtain ⟨a, vs, e, h1, h2⟩ := rdL_sq k r (show rdL S (.ref a) = some ws from h)
    exact ⟨a, vs, e, .inl h1.sq, h2⟩
  | _ => cases h
theorem tup_sq {us : List W} (r : Rep K (fz S H) (.tup us) v) : ∃ a vs, v = .ref a ∧ H a = some (.tup vs) ∧ RepL K (fz S H) us vs := by
  cases r with
  | tup _ h1 h2 => exact ⟨_, _, rfl, fz_sub _ _ h1, h2⟩
mutual
theorem Vw.dp (k : StoOk K S H) : ∀ {w : W} {d : PyData} {v : V}, Vw S w d → Rep K (fz S H) w v → Dp K.K H v d
  | _, _, _, .non, .non => .non
  | _, _, _, .bl b, .bl _ => .bl b
  | _, _, _, .int i, .int _ => .int i
  | _, _, _, .str x, .str _ => .str x
  | _, _, _, .tup h, .tup _ h1 h2 => .tup (.inl (.inl (fz_sub _ _ h1))) (VwL.dp k h h2)
  | _, _, _, .lst h, .lst _ h1 h2 => .lst (.inl (same_rd fz_sub h1)) (VwL.dp k h h2)
  | _, _, _, .lst h, .klst h1 h2 => .lst (SqR.sq (.inr h1)) (VwL.dp k h h2)
  | _, _, _, .ref e h, .ref _ => by
    obtain ⟨vs, h1, h2⟩ := cell_obL k e
    exact .lst (.inl h1) (VwL.dp k h h2)
theorem VwL.dp (k : StoOk K S H) : ∀ {ws : List W} {ds : List PyData} {vs : List V}, VwL S ws ds → RepL K (fz S H) ws vs → DpAll K.K H vs ds
  | _, _, _, .nil, .nil => .nil
  | _, _, _, .cons a b, .cons c d => .cons (Vw.dp k a c) (VwL.dp k b d)
end
theorem keyW_v {k : Key} (h : keyW w = some k) (r : Rep K (fz S H) w v) : v = kV k := by
  cases w with
  | int i => cases h; cases r; rfl
  | str x => cases h; cases r; rfl
  | _ => cases h
theorem keysW_v : ∀ {ws : List W} {vs : List V} {ks : List Key}, keysW ws = some ks → RepL K (fz S H) ws vs → vs = ks.map kV
  | [], _, _, h, .nil => by cases h; rfl
  | w :: ws, _, ks, h, .cons a b => by
    unfold keysW at h
    cases e : keyW w with
    | none => rw [e] at h; cases h
    | some k =>
      rw [e] at h
      cases e2 : keysW ws with
      | none => rw [e2] at h; cases h
      | some ks' =>
        rw [e2] at h
        cases h
        rw [keyW_v e a, keysW_v e2 b]
        rfl
theorem kvr_get {κ : Type} [DecidableEq κ] {F : Hp} : ∀ {kvs : List (κ × W)} {kv' : List (κ × V)}, KVR K F kvs kv' → ∀ k : κ, (getK kvs k = none ∧ valV kv' k = none) ∨ ∃ w v, getK kvs k = some w ∧ valV kv' k = some v ∧ Rep K F w v
  | _, _, .nil, k => .inl ⟨rfl, rfl⟩
  | (k0, w) :: kvs, (k1, v) :: kv', .cons ⟨h1, h2⟩ t, k => by
    obtain rfl : k0 = k1 := h1
    by_cases e : k0 = k
    · refine .inr ⟨w, v, ?_, valV_pos e, h2⟩
      unfold getK
      rw [List.find?_cons_of_pos (by simpa using e)]
      rfl
    · rw [valV_neg e]
      have : getK ((k0, w) :: kvs) k = getK kvs k := by
        unfold getK
        rw [List.find?_cons_of_neg (by simpa using e)]
      rw [this]
      exact kvr_get t k
theorem kvr_any {κ : Type} [DecidableEq κ] {F : Hp} : ∀ {kvs : List (κ × W)} {kv' : List (κ × V)}, KVR K F kvs kv' → ∀ k : κ, (kvs.any fun kv => decide (kv.1 = k)) = (kv'.any fun kv => decide (kv.1 = k))
  | _, _, .nil, k => rfl
  | (k0, w) :: kvs, (k1, v) :: kv', .cons ⟨h1, h2⟩ t, k => by
    obtain rfl : k0 = k1 := h1
    rw [List.any_cons, List.any_cons, kvr_any t k]
theorem kvr_map {κ : Type} [DecidableEq κ] {F : Hp} {k : κ} (r : Rep K F w v) : ∀ {kvs : List (κ × W)} {kv' : List (κ × V)}, KVR K F kvs kv' →
    KVR K F (kvs.map fun kv => if kv.1 = k then (kv.1, w) else kv) (kv'.map fun kv => if kv.1 = k then (kv.1, v) else kv)
  | _, _, .nil => .nil
  | (k0, w) :: kvs, (k1, v) :: kv', .cons ⟨h1, h2⟩ t => by
    obtain rfl : k0 = k1 := h1
    rw [List.map_cons, List.map_cons]
    refine .cons ?_ (kvr_map r t)
    by_cases e : k0 = k
    · rw [if_pos e, if_pos e]; exact ⟨rfl, r⟩
    · rw [if_neg e, if_neg e]; exact ⟨rfl, h2⟩
theorem paired_app {α β : Type} {G : α → β → Prop} : ∀ {l1 m1 : List α} {l2 m2 : List β}, Paired G l1 l2 → Paired G m1 m2 → Paired G (l1 ++ m1) (l2 ++ m2)
  | _, _, _, _, .nil, h => h
  | _, _, _, _, .cons a b, h => .cons a (paired_app b h)
theorem kvr_put {κ : Type} [DecidableEq κ] {F : Hp} {k : κ} {kvs : List (κ × W)} {kv' : List (κ × V)} (h : KVR K F kvs kv') (r : Rep K F w v) : KVR K F (setK kvs k w) (putK kv' k v) := by
  unfold setK putK
  rw [kvr_any h k]
  split
  · exact kvr_map r h
  · exact paired_app h (.cons ⟨rfl, r⟩ .nil)
theorem kvr_drop {κ : Type} [DecidableEq κ] {F : Hp} {k : κ} : ∀ {kvs : List (κ × W)} {kv' : List (κ × V)}, KVR K F kvs kv' → KVR K F (delK kvs k) (dropK kv' k)
  | _, _, .nil => .nil
  | (k0, w) :: kvs, (k1, v) :: kv', .cons ⟨h1, h2⟩ t => by
    obtain rfl : k0 = k1 := h1
    unfold delK dropK
    rw [List.filter_cons, List.filter_cons]
    by_cases e : k0 = k
    · rw [if_neg (by simpa using e), if_neg (by simpa using e)]
      exact kvr_drop t
    · rw [if_pos (by simpa using e), if_pos (by simpa using e)]
      exact .cons ⟨rfl, h2⟩ (kvr_drop t)
theorem kvr_len {κ : Type} {F : Hp} : ∀ {kvs : List (κ × W)} {kv' : List (κ × V)}, KVR K F kvs kv' → kvs.length = kv'.length
  | _, _, .nil => rfl
  | _ :: _, _ :: _, .cons _ t => by rw [List.length_cons, List.length_cons, kvr_len t]
/-- a dict is asked for a key -/
theorem rdD_get {o : Option W} (k : StoOk K S H) (rx : Rep K (fz S H) x vx) (ry : Rep K (fz S H) y vy) (h : rdD S x y = some o) :
    ∃ a r, vx = .ref a ∧ DGet H a vy r ∧ ((o = none ∧ r = none) ∨ ∃ w v, o = some w ∧ r = some v ∧ Rep K (fz S H) w v) := by
  cases x with
  | ref a =>
    cases rx
    unfold rdD at h
    cases e : S a with
    | none => simp [e] at h
    | some ob =>
      simp only [e, Option.bind_some] at h
      obtain ⟨u, hu, r⟩ := k.at' a ob e
      cases e1 : obK ob with
      | some kvs =>
        simp only [e1] at h
        cases e2 : keyW y with
        | none => simp [e2] at h
        | some kk =>
          simp only [e2, Option.map_some, Option.some.injEq] at h
          obtain ⟨vs, h1, h2⟩ := rd_obK r e1
          have hR : Rd H a (.dK vs) := by
            rcases h1 with h1 | ⟨od, h1⟩
            · exact .inl (h1 ▸ hu)
            · exact .inr ⟨od, h1 ▸ hu⟩
          refine ⟨a, valV vs kk, rfl, .inl ⟨vs, kk, hR, keyW_v e2 ry, rfl⟩, ?_⟩
          rcases kvr_get h2 kk with ⟨q1, q2⟩ | ⟨w, v, q1, q2, q3⟩
          · exact .inl ⟨h ▸ q1, q2⟩
          · exact .inr ⟨w, v, h ▸ q1, q2, q3⟩
      | none =>
        cases e2 : obT ob with
        | none => simp [e1, e2] at h
        | some kvs =>
          cases y with
          | tup ks =>
            simp only [e1, e2] at h
            cases e3 : keysW ks with
            | none => simp [e3] at h
            | some kk =>
              simp only [e3, Option.map_some, Option.some.injEq] at h
              obtain ⟨vs, h1, h2⟩ := rd_obT r e2
              have hR : Rd H a (.dT vs) := by
                rcases h1 with h1 | ⟨od, h1⟩
                · exact .inl (h1 ▸ hu)
                · exact .inr ⟨od, h1 ▸ hu⟩
              obtain ⟨b, us, rfl, hb, ru⟩ := tup_sq ry
              refine ⟨a, valV vs kk, rfl, .inr ⟨vs, kk, b, hR, rfl, by rw [hb, keysW_v e3 ru], rfl⟩, ?_⟩
              rcases kvr_get h2 kk with ⟨q1, q2⟩ | ⟨w, v, q1, q2, q3⟩
              · exact .inl ⟨h ▸ q1, q2⟩
              · exact .inr ⟨w, v, h ▸ q1, q2, q3⟩
          | _ => simp [e1, e2] at h
  | _ => cases h
end

/-! ### new things -/
section
variable {C : Ctx} {ρ : Env} {σ : L2.St} {S : Sto} {H : Hp} {Q : WK} {Q' : VK}
theorem Kv.give (k : Kv C ρ σ S H Q Q') (s : Sim C.K ρ σ S H) {w : W} {v : V} (r : Rep C.K (fz S H) w v) (q : Q w S) : Q' v H := k w S v H s (Same.refl _) r q
theorem Kv.to {S1 : Sto} {H1 : Hp} (k : Kv C ρ σ S H Q Q') (e : Same (fz S H) (fz S1 H1)) : Kv C ρ σ S1 H1 Q Q' := fun w S' v H' s q r h => k w S' v H' s (e.trans q) r h
theorem Kv.newTup (k : Kv C ρ σ S H Q Q') (s : Sim C.K ρ σ S H) {ws : List W} {vs : List V} (r : RepL C.K (fz S H) ws vs) (q : Q (.tup ws) S) :
    ∀ p, H p = none → Q' (.ref p) (upd H p (.tup vs)) := fun p hp => by
  have e := same_new (o := .tup vs) s.sto hp
  exact k _ S _ _ (s.to e (s.sto.new hp)) e (.tup (s.sto.nohid hp) (fz_new s.sto hp) (r.mono e)) q
theorem Kv.newLst (k : Kv C ρ σ S H Q Q') (s : Sim C.K ρ σ S H) {live : Bool} {ws : List W} {vs : List V} (r : RepL C.K (fz S H) ws vs) (q : mkL live ws S Q) :
    ∀ p, H p = none → Q' (.ref p) (upd H p (.lst vs)) := fun p hp => by
  cases live with
  | true =>
    have e := same_newc (ob := .lst ws) (o := .lst vs) s.sto hp
    exact k _ _ _ _ (s.to e (s.sto.newc hp ⟨vs, rfl, r⟩)) e (.ref p) (q p (s.sto.free hp))
  | false =>
    have e := same_new (o := .lst vs) s.sto hp
    exact k _ S _ _ (s.to e (s.sto.new hp)) e (.lst (s.sto.nohid hp) (.inl (fz_new s.sto hp)) (r.mono e)) q
end

/-! ### operators: from plain values to the layer's rules -/
/-- what is known of two values that an operator meets -/
def OpS (C : Ctx) (g : W → W → Sto → WK → Prop) (r : R2) : Prop := ∀ (x y : W) (vx vy : V) (ρ : Env) (σ : L2.St) (S : Sto) (H : Hp) (Q : WK) (Q' : VK), Sim C.K ρ σ S H → Rep C.K (fz S H) x vx → Rep C.K (fz S H) y vy →
  g x y S Q → Kv C ρ σ S H Q Q' → r vx vy H Q'
theorem tOf_op {c : Ct0} {g : W → W → Sto → WK → Prop} {r : R2} (h : ∀ h, OpS (c.at h) g r) {a b : WE} {σ : L2.St} {H : Hp} {Q' : VK}
    (q : tOf c (fun ρ S Q X => a ρ S (fun x S1 => b ρ S1 (fun y S2 => g x y S2 Q) X) X) σ H Q') : tOp r (tOf c a) (tOf c b) σ H Q' := by
  obtain ⟨hh, ρ, S, Q, X, s, q, k, kx⟩ := q
  refine ⟨hh, ρ, S, _, X, s, q, fun x S1 vx H1 s1 e1 r1 q1 => ?_, kx⟩
  refine ⟨hh, ρ, S1, _, X, s1, q1, fun y S2 vy H2 s2 e2 r2 q2 => ?_, kx.to e1⟩
  exact h hh x y vx vy ρ σ S2 H2 Q Q' s2 (r1.mono e2) r2 q2 (k.to (e1.trans e2))
end MP

set_option Elab.async false
set_option linter.all false
set_option maxRecDepth 100000
set_option maxHeartbeats 4000000
/-! MP4: operators, comparisons, subscripts, built-ins by value. -/
namespace MP
open PySem PySem.Spec PyProof.Rows L2

/-! ### lists that are read only, as operands -/
section
variable {X : Cx} {pins : List (Addr × Obj)} {σ : L2.St} {H : Hp} {s : Shared} {l : Addr} {xs : List V}
theorem lstR (I : Inv X pins σ H s) (h : SqR X.K H l xs) : xs.length ≤ sizeLine ∧ ∃ (its : List Value) (n : Nat), Vals xs its ∧ xs.length = its.length ∧ s.heap.get? l = some { cls := .type "list", data := .seq its.toArray n } := by
  rcases h with h | ⟨its, n, hk, hz, r⟩
  · obtain ⟨z, its, n, r, e⟩ := h.ok I.hok
    exact ⟨z, its, n, r, r.length, e⟩
  · exact ⟨by rw [r.length]; simpa using hz, its.toList, n, r, r.length, by simpa using I.kIn _ _ hk⟩
def rCatR (K : PySem.W.Frag) : R2 := fun x y H Q => ∃ l b xs zs, x = .ref l ∧ y = .ref b ∧ SqR K H l xs ∧ SqR K H b zs ∧ xs.length + zs.length ≤ sizeLine ∧ ∀ p, H p = none → Q (.ref p) (upd H p (.lst (xs ++ zs)))
theorem op_catR : OpR X (binaryOp .Add) (rCatR X.K) := by
  intro pins s σ H x y v u Q I rx ry h
  obtain ⟨l, b, xs, zs, rfl, rfl, hH, hB, hz, q⟩ := h
  cases rx
  cases ry
  obtain ⟨z, its, n, r, hl, e⟩ := lstR I hH
  obtain ⟨z2, its2, n2, r2, hl2, e2⟩ := lstR I hB
  refine PySem.P.add_list e e2 ?_ (by rw [List.size_toArray, List.size_toArray]; omega)
  have ea : its.toArray ++ its2.toArray = (its ++ its2).toArray := by simp
  rw [ea]
  exact ⟨.ref _, _, I.lnew (t' := s.toks) (r.append r2) (by rw [List.length_append]; omega), rfl, q _ I.fresh⟩
def rRepR (K : PySem.W.Frag) : R2 := fun x y H Q => ∃ l k xs, x = .ref l ∧ y = .int k ∧ SqR K H l xs ∧ -(2 ^ 63) ≤ k ∧ k < 2 ^ 63 ∧ xs.length * k.toNat ≤ sizeLine ∧
  ∀ p, H p = none → Q (.ref p) (upd H p (.lst (List.replicate k.toNat xs).flatten))
theorem op_repR : OpR X (binaryOp .Mult) (rRepR X.K) := by
  intro pins s σ H x y v u Q I rx ry h
  obtain ⟨l, k, xs, rfl, rfl, hH, h1, h2, hz, q⟩ := h
  cases rx
  obtain ⟨t, rfl⟩ := ry
  obtain ⟨z, its, n, r, hl, e⟩ := lstR I hH
  have hlen : its.toArray.size * k.toNat ≤ sizeLine := by rw [List.size_toArray, ← hl]; exact hz
  have hcap : ¬ its.toArray.size * k.toNat > (2 ^ 63 - 1) / 8 := by
    have : (sizeLine : Nat) ≤ (2 ^ 63 - 1) / 8 := by decide
    omega
  have hfit : ¬ (!Builtin.List.listFitsIndex k) = true := by
    rw [fitsIndex_both h1 h2]
    exact Bool.false_ne_true
  have hlong : ¬ Builtin.List.listTooLong (its.toArray.size * k.toNat) = true := by
    rw [notLongL hlen]
    exact Bool.false_ne_true
  have hnew : List.foldl (fun x1 x2 => x1 ++ x2) #[] (List.replicate (if its.toArray.isEmpty = true then 0 else k.toNat) its.toArray) = (List.replicate k.toNat its).flatten.toArray := by
    have f0 : ∀ m : Nat, List.foldl (fun x1 x2 => x1 ++ x2) #[] (List.replicate m its.toArray) = (List.replicate m its).flatten.toArray := fun m => by
      have := foldl_rep its m []
      rw [List.nil_append] at this
      exact this
    rw [f0]
    cases its with
    | nil => simp
    | cons a r' => rw [if_neg (by simp)]
  refine wpAny_binaryOp_repeat_ref (T := "list") (U := "int") (by decide) ⟨_, e, rfl⟩ (fun s' => typeIs_int s' k t) noFill_list_mul F.fills_int_mul F.slot_int_rmul repeat_list F.slot_int_index.lookup
    (call_meets F.slot_int_rmul (typeIs_int s k t) F.entry_int_rmul (F.args_int_rmul_2 _ _) (int___rmul___int_list k t l its.toArray n)
      ⟨e, rfl, ⟨_, e, rfl⟩, call_meets F.slot_list_mul ⟨_, e, rfl⟩ F.entry_list_mul (F.args_list_mul_2 _ _) (AutoListH.list___mul___list_int_3 l its.toArray n k t hfit hcap hlong) ⟨e, ?_⟩⟩)
  rw [hnew]
  exact ⟨.ref _, _, I.lnew (t' := s.toks) (r.rep k.toNat) (by rw [PyProof.Rows.lm_len_rep_flat, Nat.mul_comm]; exact hz), rfl, q _ I.fresh⟩
end

/-! ### binary operators -/
def rMulS : R2 := fun x y H Q => ∃ z k, x = .str z ∧ y = .int k ∧ ((k = 0 ∧ Q (.str Str.empty) H) ∨ (k = 1 ∧ Q (.str z) H) ∨ (k = 2 ∧ 0 < z.length ∧ z.length ≤ 1000 ∧ Q (.str (z ++ z)) H))
theorem op_mulS {X : Cx} : OpR X (binaryOp .Mult) rMulS := by
  intro pins s σ H x y v u Q I rx ry h
  obtain ⟨z, k, rfl, rfl, h⟩ := h
  obtain ⟨t, rfl⟩ := rx
  obtain ⟨t', rfl⟩ := ry
  rcases h with ⟨rfl, q⟩ | ⟨rfl, q⟩ | ⟨rfl, z0, z1, q⟩
  · exact PySem.P.mul_str_none (by decide) (by decide) ⟨.str _, H, I.tok _, ⟨_, rfl⟩, q⟩
  · refine PySem.P.mul_str (by decide) (fun _ e => by simp at e) (fun _ e => by simp at e) ?_
    rw [if_neg (by decide), if_pos (by simp)]
    exact ⟨.str z, H, I.tok _, ⟨_, rfl⟩, q⟩
  · have n1 : (((2 : Int) == 1) || z.length == 0) = false := by
      rw [Bool.or_eq_false_iff]
      exact ⟨rfl, by rw [beq_eq_false_iff_ne]; omega⟩
    have big : (((2 : Int) ^ 63 - 1) / 2) = 4611686018427387903 := by decide
    refine PySem.P.mul_str (by decide) (fun _ _ => by rw [big]; omega) (fun _ _ => ?_) ?_
    · show Builtin.Str.tooLong (z.length * 2) = false
      unfold Builtin.Str.tooLong
      rw [sizeLine_eq]
      exact decide_eq_false (by omega)
    · rw [if_neg (by decide), if_neg (by rw [n1]; exact Bool.false_ne_true)]
      have e : (⟨(List.replicate (2 : Int).toNat z.cps).foldl (· ++ ·) #[]⟩ : Str) = z ++ z := by
        show (⟨(#[] ++ z.cps) ++ z.cps⟩ : Str) = ⟨z.cps ++ z.cps⟩
        rw [Array.empty_append]
      rw [e]
      refine ⟨?_, .str (z ++ z), H, I.tok _, ⟨_, rfl⟩, q⟩
      have e2 : (z ++ z).length = z.length + z.length := by
        show (z.cps ++ z.cps).size = z.cps.size + z.cps.size
        rw [Array.size_append]
      rw [e2, sizeLine_eq]
      omega
def rBop (K : PySem.W.Frag) : Bop → R2
  | .add => fun x y H Q => ((rI0 fun i j => .int (i + j)) x y H Q ∨ (∃ i j, x = .str i ∧ y = .str j ∧ i.length + j.length ≤ sizeLine ∧ Q (.str (i ++ j)) H)) ∨ (rCatA K x y H Q ∨ rCatR K x y H Q)
  | .sub => rI0 fun i j => .int (i - j)
  | .mul => fun x y H Q => ((rI CMulW fun i j => .int (i * j)) x y H Q ∨ rMulS x y H Q) ∨ rRepR K x y H Q
  | .fdiv => rI CDivW fun i j => .int (i / j)
  | .mod => rI (fun _ j => 0 < j) fun i j => .int (i % j)
  | .pow => rI CPow fun i j => .int (i ^ j.toNat)
theorem op_bop {X : Cx} : ∀ b : Bop, OpR X (binaryOp b.op) (rBop X.K b)
  | .add => (op_add.or op_add_str).or (op_catA.or op_catR)
  | .sub => op_sub
  | .mul => (op_mulW.or op_mulS).or op_repR
  | .fdiv => op_fdivW
  | .mod => op_mod
  | .pow => op_pow
theorem ops_bop {C : Ctx} {live : Bool} (b : Bop) : OpS C (bopW live b) (rBop C.K.K b) := by
  intro x y vx vy ρ σ S H Q Q' s rx ry g k
  unfold bopW at g
  split at g
  · cases rx; cases ry
    exact .inl (.inl ⟨_, _, rfl, rfl, k.give s (.int _) g⟩)
  · cases rx; cases ry
    exact .inl (.inr ⟨_, _, rfl, rfl, g.1, k.give s (.str _) g.2⟩)
  · obtain ⟨hl, q⟩ := g
    have ry' := ry
    obtain ⟨a, us, rfl, ha, ra⟩ := tup_sq rx
    obtain ⟨b, vs, rfl, hb, rb⟩ := tup_sq ry
    refine .inr (.inl ⟨a, b, us, vs, rfl, rfl, .of ha, .of hb, by rw [← ra.length, ← rb.length]; exact hl, fun e => ?_, fun _ e => ?_, fun _ _ => k.newTup s (ra.append rb) q⟩)
    · subst e
      cases ra
      exact k.give s ry' q
    subst e
    cases rb
    rw [List.append_nil] at q
    exact k.give s rx q
  · obtain ⟨xs, ys, hx, hy, hl, q⟩ := g
    obtain ⟨a, us, rfl, ha, ra⟩ := rdL_sq s.sto rx hx
    obtain ⟨b, vs, rfl, hb, rb⟩ := rdL_sq s.sto ry hy
    exact .inr (.inr ⟨a, b, us, vs, rfl, rfl, ha, hb, by rw [← ra.length, ← rb.length]; exact hl, k.newLst s (ra.append rb) q⟩)
  · cases rx; cases ry
    exact ⟨_, _, rfl, rfl, k.give s (.int _) g⟩
  · cases rx; cases ry
    exact .inl (.inl ⟨_, _, rfl, rfl, g.1, k.give s (.int _) g.2⟩)
  · cases rx; cases ry
    exact .inl (.inr ⟨_, _, rfl, rfl, g.imp (fun z => ⟨z.1, k.give s (.str _) z.2⟩) fun z => z.imp (fun z => ⟨z.1, k.give s (.str _) z.2⟩) fun z => ⟨z.1, z.2.1, z.2.2.1, k.give s (.str _) z.2.2.2⟩⟩)
  · cases ry
    obtain ⟨xs, hx, h1, h2, hl, q⟩ := g
    obtain ⟨a, us, rfl, ha, ra⟩ := rdL_sq s.sto rx hx
    exact .inr ⟨a, _, us, rfl, rfl, ha, h1, h2, by rw [← ra.length]; exact hl, k.newLst s (ra.rep _) q⟩
  · cases rx; cases ry
    exact ⟨_, _, rfl, rfl, g.1, k.give s (.int _) g.2⟩
  · cases rx; cases ry
    exact ⟨_, _, rfl, rfl, g.1, k.give s (.int _) g.2⟩
  · cases rx; cases ry
    exact ⟨_, _, rfl, rfl, g.1, k.give s (.int _) g.2⟩
  · exact g.elim

/-! ### a dict among texts -/
theorem strs_only {K : KH} {F : Hp} : ∀ {ws : List W} {vs : List V}, ws.all strB = true → RepL K F ws vs → ∃ xs : List Str, vs = xs.map V.str
  | _, _, _, .nil => ⟨[], rfl⟩
  | w :: ws, _, h, .cons r rs => by
    rw [List.all_cons, Bool.and_eq_true] at h
    obtain ⟨xs, e⟩ := strs_only h.2 rs
    cases r with
    | str x => exact ⟨x :: xs, by rw [e]; rfl⟩
    | _ => cases h.1
open PySem.AutoSeq1 in
theorem text_declines (z : Str) (t : Tok) (l : Addr) (c : Value) (dd : Option Addr) (sl : Array (Option Value)) (es : Array DictEntry) (ep : Nat) :
    Meets (Builtin.«str.__eq__» ⟨[.str z t, .ref l], []⟩) (fun _ R s => s.heap.get? l = some { cls := c, dict := dd, data := .dict es ep, slots := sl } ∧ R (.ok (.ret .notImplemented)) s) :=
  .of_wp fun _ _ _ _ s h => by
    obtain ⟨hp, g, d, tk, os⟩ := s
    obtain ⟨hl, h⟩ := h
    wp_walk using wpAny_loadPart' hl, wpAny_load hl
    exact ⟨_, rfl, h⟩
open PySem.AutoSeq1 in
theorem dict_declines (z : Str) (t : Tok) (l : Addr) (dd : Option Addr) (sl : Array (Option Value)) (es : Array DictEntry) (ep : Nat) :
    Meets (Builtin.«dict.__eq__» ⟨[.ref l, .str z t], []⟩) (fun _ R s => s.heap.get? l = some { cls := .type "dict", dict := dd, data := .dict es ep, slots := sl } ∧ R (.ok (.ret .notImplemented)) s) :=
  .of_wp fun _ _ _ _ s h => by
    obtain ⟨hp, g, d, tk, os⟩ := s
    obtain ⟨hl, h⟩ := h
    have f1 := PySem.F.sub_str_dict
    wp_walk using wpAny_loadPart' hl, wpAny_load hl
    exact ⟨_, rfl, h⟩
theorem text_ne_dict {A : Around} {s : Shared} {l : Addr} {o : Obj} {es : Array DictEntry} {ep : Nat} (z : Str) (t : Tok) (ho : s.heap.get? l = some o) (hc : o.cls = .type "dict") (hd : o.data = .dict es ep) (hu : A.units < cLine) :
    SeqAt.EqAt A s (.str z t) (.ref l) false := fun prog w E Q h => by
  obtain ⟨cls, dd, data, sl⟩ := o
  simp only at hc hd
  subst hc hd
  unfold eqBool
  refine wpAny_holding ?_
  refine wpAny_ite_split (fun hab => absurd (eq_of_beq hab) nofun) (fun _ => ?_)
  refine wpAny_bind (SeqAt.rc_eq_decline_or (k := false) (Ta := "str") (Tb := "dict") (typeIs_str s z t) ⟨_, ho, rfl⟩ (by decide) PySem.F.sub_dict_str PySem.F.slot_str_eq PySem.F.slot_dict_eq_refl
    (fun _ hq => call_meets PySem.F.slot_str_eq (typeIs_str s z t) PySem.F.entry_str_eq (PySem.F.args_str_eq_2 _ _) (text_declines z t l _ dd sl es ep) ⟨ho, hq⟩)
    (fun _ hq => call_meets PySem.F.slot_dict_eq_refl ⟨_, ho, rfl⟩ PySem.F.entry_dict_eq (PySem.F.args_dict_eq_2 _ _) (dict_declines z t l dd sl es ep) ⟨ho, hq⟩)
    (fun _ hq => wpAny_of_eq (rfl : isSame (.str z t) (.ref l) = pure false) hq) (.inr hu) (wpAny_truthy_bool h))
/-- a dict in a list of texts (ng: not in) -/
def rDkIn (K : PySem.W.Frag) (ng : Bool) : R2 := fun x y H Q => ∃ (p : Addr) (kvs : List (Key × V)) (l : Addr) (xs : List Str), x = .ref p ∧ y = .ref l ∧ Rd H p (.dK kvs) ∧ SqL K H l (xs.map V.str) ∧ Q (.bl ng) H
section
variable {X : Cx}
theorem dk_among {pins : List (Addr × Obj)} {σ : L2.St} {H : Hp} {s : Shared} {p l : Addr} {kvs : List (Key × V)} {xs : List Str} (I : Inv X pins σ H s) (hp : Rd H p (.dK kvs)) (hl : SqL X.K H l (xs.map V.str)) (hu : X.A.units + 1 < cLine) :
    ∃ its : Array Value, s.heap.IsList l its ∧ (∀ y, y ∈ its → SeqAt.EqAt X.A.in1 s y (.ref p) false) := by
  obtain ⟨_, _, vs, _, dd⟩ := dk_rd I.hok hp
  obtain ⟨o, es, ep, ho, hx, hdat, _⟩ := dd
  obtain ⟨its, r, pl, _⟩ := I.list hl
  refine ⟨its.toArray, pl.isList, fun y hy => ?_⟩
  have hy' : y ∈ its := by simpa using hy
  obtain ⟨i, hlt, hi⟩ := List.mem_iff_getElem.mp hy'
  have hl2 : i < xs.length := by
    have := r.length
    rw [List.length_map] at this
    omega
  obtain ⟨u, hu', ru⟩ := r.get (i := i) (x := V.str xs[i]) (by rw [List.getElem?_map, List.getElem?_eq_getElem hl2]; rfl)
  rw [List.getElem?_eq_getElem hlt, hi] at hu'
  cases hu'
  obtain ⟨t, rfl⟩ := ru
  exact text_ne_dict _ t ho hx.1 hdat (by simpa using hu)
theorem op_dkIn (hu : X.A.units + 1 < cLine) : OpR X (compareOp .In) (rDkIn X.K false) := by
  intro pins s σ H x y v u Q I rx ry h
  obtain ⟨p, kvs, l, xs, rfl, rfl, hp, hl, q⟩ := h
  cases rx
  cases ry
  obtain ⟨its, h1, h2⟩ := dk_among I hp hl hu
  refine SeqAt.in_listAt (fun _ => false) h1 h2 ?_
  have e : its.any (fun _ => false) = false := by simp
  rw [e]
  exact ⟨.bl _, H, I, rfl, q⟩
theorem op_dkNotIn (hu : X.A.units + 1 < cLine) : OpR X (compareOp .NotIn) (rDkIn X.K true) := by
  intro pins s σ H x y v u Q I rx ry h
  obtain ⟨p, kvs, l, xs, rfl, rfl, hp, hl, q⟩ := h
  cases rx
  cases ry
  obtain ⟨its, h1, h2⟩ := dk_among I hp hl hu
  refine SeqAt.notIn_listAt (fun _ => false) h1 h2 ?_
  have e : its.any (fun _ => false) = false := by simp
  rw [e]
  exact ⟨.bl _, H, I, rfl, q⟩
end
/-! ### comparisons -/
def rOrd (K : PySem.W.Frag) (f : Bool → Bool → Bool) : R2 := fun x y H Q => ∃ d e, Dp K H x d ∧ Dp K H y e ∧ PySem.W.alike d e = true ∧ d ≠ .none ∧ SeqAt.shaped d = true ∧ SeqAt.shaped e = true ∧ Q (.bl (f (PySem.W.dataLt d e) (PySem.W.dataLt e d))) H
theorem op_ord {X : Cx} (hu : X.A.units + 65 < cLine) {o : CmpOp} {f : Bool → Bool → Bool} (ho : (o = .Lt ∧ f = fun l _ => l) ∨ (o = .LtE ∧ f = fun _ g => !g) ∨ (o = .Gt ∧ f = fun _ g => g) ∨ (o = .GtE ∧ f = fun l _ => !l)) : OpR X (compareOp o) (rOrd X.K f) := by
  intro pins s σ H x y v u Q I rx ry h
  obtain ⟨d, e, hd, he, al, dn, sd, se, q⟩ := h
  obtain ⟨as, ra⟩ := Dp.reads I d x v hd rx
  obtain ⟨bs, rb⟩ := Dp.reads I e y u he ry
  have room : X.A.units + min d.depth e.depth < cLine := SeqAt.room_of_shaped sd (by omega)
  rcases ho with ⟨rfl, rfl⟩ | ⟨rfl, rfl⟩ | ⟨rfl, rfl⟩ | ⟨rfl, rfl⟩
  · exact PySem.W.lt_data ra rb al dn room ⟨.bl _, H, I, rfl, q⟩
  · exact PySem.W.le_data ra rb al dn room ⟨.bl _, H, I, rfl, q⟩
  · exact PySem.W.gt_data ra rb al dn room ⟨.bl _, H, I, rfl, q⟩
  · exact PySem.W.ge_data ra rb al dn room ⟨.bl _, H, I, rfl, q⟩
def rIsX : R2 := fun x y H Q => ((y = .non ∧ Q (.bl (decide (x = .non))) H) ∨ rIsB x y H Q) ∨ False
def rCmp (K : PySem.W.Frag) : CmpOp → R2
  | .Lt => fun x y H Q => (rI0 fun i j => .bl (decide (i < j))) x y H Q ∨ rOrd K (fun l _ => l) x y H Q
  | .LtE => fun x y H Q => (rI0 fun i j => .bl (decide (i ≤ j))) x y H Q ∨ rOrd K (fun _ g => !g) x y H Q
  | .Gt => fun x y H Q => (rI0 fun i j => .bl (decide (j < i))) x y H Q ∨ rOrd K (fun _ g => g) x y H Q
  | .GtE => fun x y H Q => (rI0 fun i j => .bl (decide (j ≤ i))) x y H Q ∨ rOrd K (fun l _ => !l) x y H Q
  | .Eq => rEqD K
  | .NotEq => rNeD K
  | .In => fun x y H Q => ((∃ i j, x = .str i ∧ y = .str j ∧ Q (.bl (!(Builtin.Str.occurrences j i 0 j.length 1).isEmpty)) H) ∨ rIn K false x y H Q) ∨ (rInD K x y H Q ∨ (∃ a o, y = .ref a ∧ DGet H a x o ∧ Q (.bl o.isSome) H) ∨ rDkIn K false x y H Q)
  | .NotIn => fun x y H Q => ((∃ i j, x = .str i ∧ y = .str j ∧ Q (.bl (!(!(Builtin.Str.occurrences j i 0 j.length 1).isEmpty))) H) ∨ rIn K true x y H Q) ∨ (rNotInD K x y H Q ∨ (∃ a o, y = .ref a ∧ DGet H a x o ∧ Q (.bl (!o.isSome)) H) ∨ rDkIn K true x y H Q)
  | .Is => fun x y H Q => (y = .non ∧ Q (.bl (decide (x = .non))) H) ∨ rIsB x y H Q
  | .IsNot => fun x y H Q => (y = .non ∧ Q (.bl (!decide (x = .non))) H) ∨ rNotB x y H Q
theorem op_inDict {X : Cx} (hu : X.A.units + 1 < cLine) : OpR X (compareOp .In) (fun x y H Q => ∃ a o, y = .ref a ∧ DGet H a x o ∧ Q (.bl o.isSome) H) := by
  intro pins s σ H x y v u Q I rx ry h
  obtain ⟨a, o, rfl, g, q⟩ := h
  cases ry
  exact d_in hu I g rx fun s' I' => ⟨.bl _, H, I', rfl, q⟩
theorem op_notInDict {X : Cx} (hu : X.A.units + 1 < cLine) : OpR X (compareOp .NotIn) (fun x y H Q => ∃ a o, y = .ref a ∧ DGet H a x o ∧ Q (.bl (!o.isSome)) H) := by
  intro pins s σ H x y v u Q I rx ry h
  obtain ⟨a, o, rfl, g, q⟩ := h
  cases ry
  exact d_notIn hu I g rx fun s' I' => ⟨.bl _, H, I', rfl, q⟩
theorem op_cmp {X : Cx} (hu : X.A.units + 65 < cLine) : ∀ o : CmpOp, OpR X (compareOp o) (rCmp X.K o)
  | .Lt => op_lt.or (op_ord hu (.inl ⟨rfl, rfl⟩))
  | .LtE => op_le.or (op_ord hu (.inr (.inl ⟨rfl, rfl⟩)))
  | .Gt => op_gt.or (op_ord hu (.inr (.inr (.inl ⟨rfl, rfl⟩))))
  | .GtE => op_ge.or (op_ord hu (.inr (.inr (.inr ⟨rfl, rfl⟩))))
  | .Eq => op_eqD (by omega)
  | .NotEq => op_neD (by omega)
  | .In => (op_in_str.or op_in_seq).or ((op_inD hu).or ((op_inDict (by omega)).or (op_dkIn (by omega))))
  | .NotIn => (op_notin_str.or op_notIn_seq).or ((op_notInD hu).or ((op_notInDict (by omega)).or (op_dkNotIn (by omega))))
  | .Is => op_isN.or op_isBl
  | .IsNot => op_notN.or op_notBl
theorem flat_v {K : KH} {F : Hp} {x : W} {v : V} (h : flatW x = true) (r : Rep K F x v) : flatV v = true := by
  cases r <;> first | rfl | exact h
theorem flat_vs {K : KH} {F : Hp} : ∀ {xs : List W} {vs : List V}, xs.all flatW = true → RepL K F xs vs → vs.all flatV = true
  | _, _, _, .nil => rfl
  | x :: xs, v :: vs, h, .cons a b => by
    rw [List.all_cons, Bool.and_eq_true] at h
    rw [List.all_cons, flat_v h.1 a, flat_vs h.2 b]
    rfl
/-- == of flat values, as data -/
theorem eqV_data {K : KH} {S : Sto} {H : Hp} {x y : W} {vx vy : V} {d e : PyData} (hx : Vw S x d) (hy : Vw S y e) (fx : flatW x = true) (fy : flatW y = true) (rx : Rep K (fz S H) x vx) (ry : Rep K (fz S H) y vy) :
    eqV vx vy = PyData.eqv d e := by
  cases rx <;> first
    | (cases hx; cases ry <;> first
        | (cases hy; first | rfl | (simp [eqV, PyData.eqv]; done) | (simp [eqV, PyData.eqv, Bool.beq_comm]; done))
        | exact absurd (show false = true from fy) Bool.false_ne_true)
    | exact absurd (show false = true from fx) Bool.false_ne_true
theorem inV_data {K : KH} {S : Sto} {H : Hp} {x : W} {vx : V} {d : PyData} (hx : Vw S x d) (fx : flatW x = true) (rx : Rep K (fz S H) x vx) : ∀ {ws : List W} {vs : List V} {ds : List PyData}, VwL S ws ds → ws.all flatW = true → RepL K (fz S H) ws vs →
    inV vx vs = ds.any fun z => PyData.eqv z d
  | _, _, _, .nil, _, .nil => rfl
  | w :: ws, v :: vs, e :: ds, .cons a b, h, .cons p q => by
    rw [List.all_cons, Bool.and_eq_true] at h
    have ih := inV_data hx fx rx b h.2 q
    unfold inV at ih ⊢
    rw [List.any_cons, List.any_cons, ih, eqV_data a hx h.1 fx p rx]
theorem isN_v {K : KH} {F : Hp} {x : W} {v : V} (r : Rep K F x v) : isN x = decide (v = .non) := by
  cases r <;> rfl
/-- a comparison's wish -/
def CmpS (C : Ctx) (g : W → W → Sto → (Bool → Prop) → Prop) (r : R2) : Prop := ∀ (x y : W) (vx vy : V) (S : Sto) (H : Hp) (Q : Bool → Prop) (Q' : VK), StoOk C.K S H → Rep C.K (fz S H) x vx → Rep C.K (fz S H) y vy →
  g x y S Q → (∀ b, Q b → Q' (.bl b) H) → r vx vy H Q'
theorem Vw.eqOk {S : Sto} {x : W} {d : PyData} (h : Vw S x d) : True := trivial
theorem cmps {C : Ctx} (o : CmpOp) : CmpS C (cmpW o) (rCmp C.K.K o) := by
  intro x y vx vy S H Q Q' s rx ry g k
  unfold cmpW at g
  split at g
  · cases rx; cases ry; exact .inl ⟨_, _, rfl, rfl, k _ g⟩
  · cases rx; cases ry; exact .inl ⟨_, _, rfl, rfl, k _ g⟩
  · cases rx; cases ry; exact .inl ⟨_, _, rfl, rfl, k _ g⟩
  · cases rx; cases ry; exact .inl ⟨_, _, rfl, rfl, k _ g⟩
  · obtain ⟨d, e, hd, he, al, dn, sd, se, q⟩ := g
    exact .inr ⟨d, e, hd.dp s rx, he.dp s ry, al, dn, sd, se, k _ q⟩
  · obtain ⟨d, e, hd, he, al, dn, sd, se, q⟩ := g
    exact .inr ⟨d, e, hd.dp s rx, he.dp s ry, al, dn, sd, se, k _ q⟩
  · obtain ⟨d, e, hd, he, al, dn, sd, se, q⟩ := g
    exact .inr ⟨d, e, hd.dp s rx, he.dp s ry, al, dn, sd, se, k _ q⟩
  · obtain ⟨d, e, hd, he, al, dn, sd, se, q⟩ := g
    exact .inr ⟨d, e, hd.dp s rx, he.dp s ry, al, dn, sd, se, k _ q⟩
  · obtain ⟨d, e, hd, he, sd, se, q⟩ := g
    exact ⟨d, e, hd.dp s rx, he.dp s ry, sd, se, k _ q⟩
  · obtain ⟨d, e, hd, he, sd, se, q⟩ := g
    exact ⟨d, e, hd.dp s rx, he.dp s ry, sd, se, k _ q⟩
  · unfold inWk at g
    split at g
    · cases rx; cases ry
      exact .inl (.inl ⟨_, _, rfl, rfl, k _ g⟩)
    · obtain ⟨f1, f2, d, ds, hd, hds, q⟩ := g
      obtain ⟨a, us, rfl, ha, ra⟩ := tup_sq ry
      refine .inl (.inr ⟨a, us, rfl, .inr (.of ha), flat_v f1 rx, flat_vs f2 ra, ?_⟩)
      rw [inV_data hd f1 rx hds f2 ra]
      exact k _ q
    · rcases g with ⟨ws, d, ds, hw, hd, hds, sd, sds, q⟩ | ⟨o, ho, q⟩ | ⟨p, kvs, ws, rfl, hp, hw, hs, q⟩
      · obtain ⟨a, us, rfl, ha, ra⟩ := rdL_sq s ry hw
        exact .inr (.inl ⟨d, ds, hd.dp s rx, .lst ha.sq (hds.dp s ra), sd, sds, k _ q⟩)
      · obtain ⟨a, r, rfl, g, z⟩ := rdD_get s ry rx ho
        refine .inr (.inr (.inl ⟨a, r, rfl, g, ?_⟩))
        rcases z with ⟨rfl, rfl⟩ | ⟨w, v, rfl, rfl, _⟩
        · exact k _ q
        · exact k _ q
      · cases rx
        obtain ⟨kv', h1, _⟩ := cell_obK s hp
        obtain ⟨a, us, rfl, ha, ra⟩ := rdL_sq s ry hw
        obtain ⟨xs, rfl⟩ := strs_only hs ra
        exact .inr (.inr (.inr ⟨p, kv', a, xs, rfl, rfl, h1, ha.sq, k _ q⟩))
  · unfold inWk at g
    split at g
    · cases rx; cases ry
      exact .inl (.inl ⟨_, _, rfl, rfl, k _ g⟩)
    · obtain ⟨f1, f2, d, ds, hd, hds, q⟩ := g
      obtain ⟨a, us, rfl, ha, ra⟩ := tup_sq ry
      refine .inl (.inr ⟨a, us, rfl, .inr (.of ha), flat_v f1 rx, flat_vs f2 ra, ?_⟩)
      rw [inV_data hd f1 rx hds f2 ra]
      exact k _ q
    · rcases g with ⟨ws, d, ds, hw, hd, hds, sd, sds, q⟩ | ⟨o, ho, q⟩ | ⟨p, kvs, ws, rfl, hp, hw, hs, q⟩
      · obtain ⟨a, us, rfl, ha, ra⟩ := rdL_sq s ry hw
        exact .inr (.inl ⟨d, ds, hd.dp s rx, .lst ha.sq (hds.dp s ra), sd, sds, k _ q⟩)
      · obtain ⟨a, r, rfl, g, z⟩ := rdD_get s ry rx ho
        refine .inr (.inr (.inl ⟨a, r, rfl, g, ?_⟩))
        rcases z with ⟨rfl, rfl⟩ | ⟨w, v, rfl, rfl, _⟩
        · exact k _ q
        · exact k _ q
      · cases rx
        obtain ⟨kv', h1, _⟩ := cell_obK s hp
        obtain ⟨a, us, rfl, ha, ra⟩ := rdL_sq s ry hw
        obtain ⟨xs, rfl⟩ := strs_only hs ra
        exact .inr (.inr (.inr ⟨p, kv', a, xs, rfl, rfl, h1, ha.sq, k _ q⟩))
  · obtain ⟨b, hb, q⟩ := g
    unfold isW at hb
    split at hb
    · cases ry
      cases hb
      exact .inl ⟨rfl, by rw [isN_v rx] at q; exact k _ q⟩
    · cases rx; cases ry; cases hb
      exact .inr ⟨_, _, rfl, rfl, k _ q⟩
    · cases hb
  · obtain ⟨b, hb, q⟩ := g
    unfold isW at hb
    split at hb
    · cases ry
      cases hb
      exact .inl ⟨rfl, by rw [isN_v rx] at q; exact k _ q⟩
    · cases rx; cases ry; cases hb
      exact .inr ⟨_, _, rfl, rfl, k _ q⟩
    · cases hb

/-! ### subscripts -/
theorem atI_rep {K : KH} {F : Hp} {ws : List W} {vs : List V} {i : Int} {w : W} (r : RepL K F ws vs) (h : atI ws i = some w) : ∃ v, atI vs i = some v ∧ Rep K F w v := by
  unfold atI at h ⊢
  rw [← r.length]
  cases e : ixN ws.length i with
  | none => rw [e] at h; cases h
  | some j =>
    rw [e] at h
    obtain ⟨v, h1, h2⟩ := r.get (i := j) (w := w) h
    exact ⟨v, h1, h2⟩
def rIxD : R2 := fun x y H Q => ∃ a v, x = .ref a ∧ DGet H a y (some v) ∧ Q v H
theorem ix_dict {X : Cx} (hu : X.A.units + 1 < cLine) : IxR X rIxD := by
  intro value slice pins s σ H x y v u Q I rx ry h hs
  obtain ⟨a, w, rfl, g, q⟩ := h
  cases rx
  have hT := dict_typeIs I g
  unfold subscriptTail
  refine wpAny_bind ?_
  rw [getitemInPython_of_ne hT.not_modules]
  refine wpAny_bind (wpAny_specialOf hT PySem.F.slot_dict_getitem.lookup ?_)
  have fin : wpAny (model X.prog X.w) X.A (subscripted slice false (.ref a) u) (fun r s₃ => wpAny (model X.prog X.w) X.A (letTemporaryGo value (.ref a) r >>= fun _ => pure r) (EP X pins σ Q) X.xe s₃) X.xe s := by
    rw [hs]
    exact wpAny_operating (wpAny_mono (d_getItem hu I g ry fun w' s3 I3 rw' => (⟨w, H, I3, rw', q⟩ : EP X pins σ Q w' s3)) (fun r s₃ h₃ => wpAny_bind (wpAny_letTemporaryGo (wpAny_pure h₃))) fun _ _ x => x)
  first
    | exact wpAny_pure (wpAny_bind fin)
    | exact wpAny_bind (wpAny_pure (wpAny_bind fin))
    | exact wpAny_bind fin
def rIdx (K : PySem.W.Frag) : R2 := fun x y H Q => rIx K x y H Q ∨ rIxD x y H Q
theorem ix_all {X : Cx} (hu : X.A.units + 1 < cLine) : IxR X (rIdx X.K) := ix_seq.or (ix_dict hu)
theorem ops_idx {C : Ctx} : OpS C idxW (rIdx C.K.K) := by
  intro x y vx vy ρ σ S H Q Q' s rx ry g k
  unfold idxW at g
  split at g
  · cases rx; cases ry
    obtain ⟨hz, c, hc, q⟩ := g
    exact .inl (.inr (.inr ⟨_, _, c, rfl, rfl, hz, hc, k.give s (.str _) q⟩))
  · cases ry
    obtain ⟨w, hw, q⟩ := g
    obtain ⟨a, us, rfl, ha, ra⟩ := tup_sq rx
    obtain ⟨v, hv, rv⟩ := atI_rep ra hw
    exact .inl (.inr (.inl ⟨a, us, _, v, rfl, rfl, .of ha, hv, k.give s rv q⟩))
  · cases ry
    obtain ⟨w, hw, q⟩ := g
    obtain ⟨a, us, rfl, ha, ra⟩ := rdL_sq s.sto rx rfl
    obtain ⟨v, hv, rv⟩ := atI_rep ra hw
    exact .inl (.inl ⟨a, us, _, v, rfl, rfl, ha.sq, hv, k.give s rv q⟩)
  · rcases g with ⟨ws, i, w, hl, rfl, hw, q⟩ | ⟨w, hw, q⟩
    · cases ry
      obtain ⟨a, us, rfl, ha, ra⟩ := rdL_sq s.sto rx hl
      obtain ⟨v, hv, rv⟩ := atI_rep ra hw
      exact .inl (.inl ⟨a, us, _, v, rfl, rfl, ha.sq, hv, k.give s rv q⟩)
    · obtain ⟨a, r, rfl, g, z⟩ := rdD_get s.sto rx ry hw
      rcases z with ⟨h, _⟩ | ⟨w', v, h, rfl, rv⟩
      · cases h
      · cases h
        exact .inr ⟨a, v, rfl, g, k.give s rv q⟩
  · exact g.elim
/-- o[i] by values, for o[i] op= e -/
def rGet (K : PySem.W.Frag) : V → V → Hp → VK → Prop := fun x y H Q => (∃ p xs i v, x = .ref p ∧ y = .int i ∧ SqL K H p xs ∧ atI xs i = some v ∧ Q v H) ∨ rIxD x y H Q
theorem pget {X : Cx} (hu : X.A.units + 1 < cLine) : PGet X (rGet X.K) := by
  intro pins s σ H x y v u Q I rx ry h
  rcases h with ⟨p, xs, i, z, rfl, rfl, hq, he, q⟩ | ⟨a, w, rfl, g, q⟩
  · cases rx
    obtain ⟨t, rfl⟩ := ry
    obtain ⟨its, r, pl, hz⟩ := I.list hq
    obtain ⟨j, h1, h2, h3, h4, h5⟩ := atI_get he
    obtain ⟨w, ew, rw'⟩ := r.get h2
    have hl := r.length
    have hn := line63
    have fin : EP X pins σ Q w s := ⟨z, H, I, rw', q⟩
    by_cases h0 : 0 ≤ i
    · have hj : i.toNat = j := by
        rw [seqIndex_of h0 h5] at h1
        exact Option.some.inj h1
      exact wpAny_getItem_list pl.isList h0 (by omega) (by rw [hj]; simpa using ew) fin
    · have hj : (i + (its.toArray.size : Int)).toNat = j := by
        rw [seqIndex_neg (by omega) h4] at h1
        rw [List.size_toArray, ← hl]
        exact Option.some.inj h1
      exact wpAny_getItem_list_neg pl.isList (by omega) (by rw [List.size_toArray] <;> omega) (by omega) (by rw [hj]; simpa using ew) fin
  · cases rx
    exact d_getItem hu I g ry fun w' s3 I3 rw' => ⟨w, H, I3, rw', q⟩
/-- the value got is an int -/
theorem get_int {C : Ctx} {x y : W} {vx vy : V} {ρ : Env} {σ : L2.St} {S : Sto} {H : Hp} {Q : WK} {Q' : VK} (s : Sim C.K ρ σ S H) (rx : Rep C.K (fz S H) x vx) (ry : Rep C.K (fz S H) y vy) (hx : ∃ a, x = .ref a)
    (g : idxW x y S Q) (k : Kv C ρ σ S H Q Q') : rGet C.K.K vx vy H Q' := by
  obtain ⟨a, rfl⟩ := hx
  have h := ops_idx (C := C) (.ref a) y vx vy ρ σ S H Q Q' s rx ry g k
  cases rx
  rcases h with (h | h | h) | h
  · exact .inl h
  · unfold idxW at g
    rcases g with ⟨ws, i, w, hl, rfl, hw, q⟩ | ⟨w, hw, q⟩
    · cases ry
      obtain ⟨a', us, e, ha, ra⟩ := rdL_sq s.sto (.ref a) hl
      cases e
      obtain ⟨v, hv, rv⟩ := atI_rep ra hw
      exact .inl ⟨a, us, _, v, rfl, rfl, ha.sq, hv, k.give s rv q⟩
    · obtain ⟨a', r, e, g, z⟩ := rdD_get s.sto (.ref a) ry hw
      cases e
      rcases z with ⟨h, _⟩ | ⟨w', v, h, rfl, rv⟩
      · cases h
      · cases h
        exact .inr ⟨a, v, rfl, g, k.give s rv q⟩
  · obtain ⟨z, i, c, e, _⟩ := h
    cases e
  · exact .inr h

/-! ### slices -/
theorem cut_rep {K : KH} {F : Hp} {ws : List W} {vs : List V} {lo hi : Option Int} (r : RepL K F ws vs) : RepL K F (cutW ws lo hi) (cutV vs lo hi) := by
  unfold cutW cutV
  rw [r.length]
  exact (r.drop _).take _
def rSlc (K : PySem.W.Frag) : V → Option Int → Option Int → Hp → VK → Prop := fun x lo hi H Q => (rSlL K x lo hi H Q ∨ rSlA K x lo hi H Q) ∨ rSlS x lo hi H Q
theorem sl_all {X : Cx} : SlR X (rSlc X.K) := (sl_list.or sl_tupA).or sl_str
theorem slcs {C : Ctx} {live : Bool} {x : W} {vx : V} {lo hi : Option Int} {ρ : Env} {σ : L2.St} {S : Sto} {H : Hp} {Q : WK} {Q' : VK} (s : Sim C.K ρ σ S H) (rx : Rep C.K (fz S H) x vx)
    (g : slcW live x lo hi S Q) (k : Kv C ρ σ S H Q Q') : rSlc C.K.K vx lo hi H Q' := by
  unfold slcW at g
  split at g
  · cases rx
    exact .inr ⟨_, rfl, g.1, k.give s (.str _) g.2⟩
  · rename_i ws
    obtain ⟨a, us, rfl, ha, ra⟩ := tup_sq rx
    refine .inl (.inr ⟨a, us, rfl, .of ha, fun h => ?_, fun h => k.newTup s (cut_rep ra) g⟩)
    have e : cutW ws lo hi = ws := by
      unfold cutW
      rw [ra.length, h.1, h.2, List.drop_zero, Nat.sub_zero, ← ra.length]
      exact List.take_length
    rw [e] at g
    exact k.give s rx g
  · obtain ⟨ws, hw, q⟩ := g
    obtain ⟨a, us, rfl, ha, ra⟩ := rdL_sq s.sto rx hw
    exact .inl (.inl ⟨a, us, rfl, ha.sq, k.newLst s (cut_rep ra) q⟩)

/-! ### stores -/
def rSetD : TSet := fun o i v H Q => ∃ a H', o = .ref a ∧ DPut H a i v H' ∧ Q H'
theorem set_dict {X : Cx} (hu : X.A.units + 1 < cLine) : PSet X rSetD := by
  intro pins s σ H o i v ov iv u Q I ro ri rv h
  obtain ⟨a, H', rfl, g, q⟩ := h
  cases ro
  exact d_setItem hu I g ri rv fun s' I' => ⟨H', I', q⟩
def rSetX : TSet := fun o i v H Q => rSetL o i v H Q ∨ rSetD o i v H Q
theorem set_all {X : Cx} (hu : X.A.units + 1 < cLine) : PSet X rSetX := by
  intro pins s σ H o i v ov iv u Q I ro ri rv h
  rcases h with h | h
  · exact set_list pins s σ H o i v ov iv u Q I ro ri rv h
  · exact set_dict hu pins s σ H o i v ov iv u Q I ro ri rv h
theorem sets {C : Ctx} {x i w : W} {vx vi v : V} {ρ : Env} {σ : L2.St} {S : Sto} {H : Hp} {Q : Sto → Prop} {Q' : Hp → Prop} (s : Sim C.K ρ σ S H) (rx : Rep C.K (fz S H) x vx) (ri : Rep C.K (fz S H) i vi) (rw' : Rep C.K (fz S H) w v)
    (g : setW x i w S Q) (k : ∀ S' H', Sim C.K ρ σ S' H' → Same (fz S H) (fz S' H') → Q S' → Q' H') : rSetX vx vi v H Q' := by
  obtain ⟨a, rfl, g⟩ := g
  cases rx
  have fin : ∀ {ob ob' : Ob} {o : HO}, S a = some ob → ObR C.K (fz S H) H a ob' o → Q (sup S a ob') → Q' (upd H a o) := fun {ob ob' o} h r q => by
    have e : Same (fz S H) (fz (sup S a ob') (upd H a o)) := by
      rw [fz_put h]
      exact Same.refl _
    exact k _ _ (s.to e (s.sto.put h r)) e q
  rcases g with ⟨ws, j, n, hs, rfl, hn, q⟩ | ⟨kvs, kk, hs, hk, hl, q⟩ | ⟨kvs, ks, kk, hs, rfl, hk, hl, q⟩
  · cases ri
    obtain ⟨u, hu, r⟩ := s.sto.at' a _ hs
    obtain ⟨vs, rfl, r⟩ := r
    exact .inl ⟨a, vs, _, n, rfl, rfl, hu, by rw [← r.length]; exact hn, fin (ob' := .lst (ws.set n w)) hs ⟨_, rfl, r.set rw' n⟩ q⟩
  · obtain ⟨u, hu, r⟩ := s.sto.at' a _ hs
    obtain ⟨vs, rfl, r⟩ := r
    refine .inr ⟨a, _, rfl, .inl ⟨vs, kk, hu, keyW_v hk ri, by rw [← kvr_len r]; exact hl, rfl⟩, fin (ob' := .dk (setK kvs kk w)) hs ⟨_, rfl, kvr_put r rw'⟩ q⟩
  · obtain ⟨u, hu, r⟩ := s.sto.at' a _ hs
    obtain ⟨vs, rfl, r⟩ := r
    obtain ⟨b, us, rfl, hb, ru⟩ := tup_sq ri
    refine .inr ⟨a, _, rfl, .inr ⟨vs, kk, b, hu, rfl, by rw [hb, keysW_v hk ru], by rw [← kvr_len r]; exact hl, rfl⟩, fin (ob' := .dt (setK kvs kk w)) hs ⟨_, rfl, kvr_put r rw'⟩ q⟩
end MP

set_option Elab.async false
set_option linter.all false
set_option maxRecDepth 100000
set_option maxHeartbeats 4000000
/-! MP4b: dict(pairs), list(dict): the layer's side. -/
namespace MP
open PySem PySem.Spec PyProof.Rows L2

section
variable {κ : Type} [DecidableEq κ]
def putsV (acc more : List (κ × V)) : List (κ × V) := more.foldl (fun acc kv => putK acc kv.1 kv.2) acc
theorem putsV_le : ∀ more acc : List (κ × V), (putsV acc more).length ≤ acc.length + more.length
  | [], _ => Nat.le_refl _
  | kv :: more, acc => by
    have h1 := putsV_le more (putK acc kv.1 kv.2)
    have h2 := length_putK acc kv.1 kv.2
    show (putsV (putK acc kv.1 kv.2) more).length ≤ _
    rw [List.length_cons]
    omega
end
theorem kt_puts {H : Hp} : ∀ {more : List (List Key × V)} {rs : List (List Key × Addr × Value)}, KT H more rs → ∀ {acc : List (List Key × V)} {xs : List (List Key × Addr × Value)}, KT H acc xs → KT H (putsV acc more) (storedAllH xs rs) := by
  intro more rs r
  induction r with
  | nil => intro acc xs q; exact q
  | cons h t ih =>
    intro acc xs q
    obtain ⟨h1, h2, h3⟩ := h
    have e := q.put _ h2 h3
    rename_i p r _ _
    have e2 : storedH xs p.1 r.2.1 r.2.2 = storedH xs r.1 r.2.1 r.2.2 := by rw [h1]
    rw [e2] at e
    exact ih e
/-- the pairs' addresses: each a tuple of a key's tuple and a value -/
abbrev PrsT (H : Hp) : List Addr → List (List Key × V) → Prop := Paired fun p kv => ∃ b, H p = some (.tup [.ref b, kv.2]) ∧ H b = some (.tup (kv.1.map kV))
section
variable {X : Cx} {pins : List (Addr × Obj)} {σ : L2.St} {H : Hp} {s : Shared}
theorem prsT_of (I : Inv X pins σ H s) : ∀ {ps : List Addr} {kvs : List (List Key × V)}, PrsT H ps kvs →
    ∃ rs : List (List Key × Addr × Value), KT H kvs rs ∧ rs.length = ps.length ∧ ∀ (j : Nat) (q : List Key × Addr × Value), rs[j]? = some q → ∃ p : Addr, ps[j]? = some p ∧ IsTup s.heap p #[.ref q.2.1, q.2.2]
  | _, _, .nil => ⟨[], .nil, rfl, fun j q e => by simp at e⟩
  | _, _, .cons (a := p) (b := kv) h t => by
    obtain ⟨rs, r1, r2, r3⟩ := prsT_of I t
    obtain ⟨b, hp, hb⟩ := h
    obtain ⟨its, rv, ht, _⟩ := I.tuple (SqT.of hp)
    obtain ⟨u, y, rfl, ru, ry⟩ := vals2 rv
    cases ru
    refine ⟨(kv.1, b, y) :: rs, .cons ⟨rfl, hb, ry⟩ r1, by rw [List.length_cons, List.length_cons, r2], fun j q e => ?_⟩
    cases j with
    | zero =>
      cases (Option.some.inj e : (kv.1, b, y) = q)
      exact ⟨p, rfl, ht⟩
    | succ j => exact r3 j q e
end
def rDictT (K : PySem.W.Frag) : List V → Hp → VK → Prop := fun xs H Q => ∃ (a : Addr) (ps : List Addr) (kvs : List (List Key × V)), xs = [.ref a] ∧ SqL K H a (ps.map V.ref) ∧ PrsT H ps kvs ∧
    ∀ p, H p = none → Q (.ref p) (upd H p (.dT (putsV [] kvs)))
theorem call_dictT {X : Cx} (hcalm : X.calm = true) (hu : X.A.units + 66 < cLine) : CallR X (.type "dict") (rDictT X.K) := by
  intro pins s σ H xs us Q I r q
  obtain ⟨a, ps, kvs, rfl, hq, hp, q⟩ := q
  obtain ⟨u, rfl, rx⟩ := r.one
  cases rx
  obtain ⟨its, rv, pl, hz⟩ := I.list hq
  have ei := refs_at rv
  subst ei
  rw [List.length_map] at hz
  obtain ⟨rs, rel, hl, hpr⟩ := prsT_of I hp
  have hkvl : kvs.length = rs.length := Paired.length rel
  let pps : List (Value × Value) := rs.map fun x => (Value.ref x.2.1, x.2.2)
  let Ts : Nat → Addr := fun j => ps.getD j 0
  have hpl : pps.length = ps.length := by show (rs.map _).length = _; rw [List.length_map, hl]
  have P := PairArg.list (prog := X.prog) (w := X.w) a (ps.map Value.ref).toArray Ts pps
  obtain ⟨o, n, ho, hc, hd, hdat⟩ := pl
  have pat : ∀ j x, rs[j]? = some x → ∃ p, ps[j]? = some p ∧ Ts j = p ∧ s.heap.IsTuple p #[.ref x.2.1, x.2.2] := fun j x e => by
    obtain ⟨p, e1, o2, e2, e3, n2, e4⟩ := hpr j x e
    exact ⟨p, e1, by show ps.getD j 0 = p; rw [List.getD_eq_getElem?_getD, e1]; rfl, o2, e2, e3, n2, e4⟩
  have hok : PlainSeq "list" s.heap a (ps.map Value.ref).toArray ∧ PairItems s.heap (ps.map Value.ref).toArray Ts pps := by
    refine ⟨⟨o, n, ho, hc, hd, hdat⟩, by simp [hpl], fun j k v e => ?_⟩
    obtain ⟨x, hx, e'⟩ : ∃ x, rs[j]? = some x ∧ (Value.ref x.2.1, x.2.2) = (k, v) := by
      have e2 : (rs.map fun x => (Value.ref x.2.1, x.2.2))[j]? = some (k, v) := e
      rw [List.getElem?_map] at e2
      cases q : rs[j]? with
      | none => rw [q] at e2; cases e2
      | some x => rw [q] at e2; exact ⟨x, rfl, Option.some.inj e2⟩
    cases e'
    obtain ⟨p, e1, e2, e3⟩ := pat j x hx
    exact ⟨by rw [e2]; simp [e1], .inl (by rw [e2]; exact e3)⟩
  have keyIs' : ∀ x ∈ rs, (tupleKind (mixKind X.prog X.w)).is s.heap x.1 x.2.1 := by
    have all : ∀ {l : List (List Key × V)} {m : List (List Key × Addr × Value)}, KT H l m → ∀ x ∈ m, (tupleKind (mixKind X.prog X.w)).is s.heap x.1 x.2.1 := by
      intro l m t
      induction t with
      | nil => intro x hx; cases hx
      | cons h t ih =>
        intro x hx
        rcases List.mem_cons.mp hx with rfl | hx
        · exact key_of I.hok (by rw [← h.1]; exact h.2.1)
        · exact ih x hx
    exact all rel
  refine PySem.call_dict_pairsH (A := X.A) (knd := tupleKind (mixKind X.prog X.w)) (ps := rs) P (I.ok.hd hcalm) ?_ hok ⟨by rw [hpl, hl], fun i key v e => ?_⟩ (fun h' hk x hx => ?_) (by rw [hpl]; exact hz) fun h' tk hd' hk => ?_
  · exact tupleKind_room_in1 (by show X.A.units + 1 + 1 < cLine; omega)
  · have e2 : (rs.map fun x => (Value.ref x.2.1, x.2.2))[i]? = some (key, v) := e
    rw [List.getElem?_map] at e2
    cases q : rs[i]? with
    | none => rw [q] at e2; cases e2
    | some x =>
      rw [q] at e2
      cases (Option.some.inj e2)
      exact ⟨x.1, x.2.1, rfl, rfl⟩
  · obtain ⟨o2, it2, n2, e1, e2, e3, e4⟩ := keyIs' x hx
    exact ⟨o2, it2, n2, hk _ _ (Nat.ne_of_lt (Heap.lt_size e1)) (by simp) e1, e2, e3, e4⟩
  · have hlen : (putsV [] kvs).length ≤ sizeLine := by
      have := putsV_le kvs []
      rw [List.length_nil] at this
      omega
    have hm : (s.heap.objs.size == sysModules) = false := beq_eq_false_iff_ne.mpr (Nat.ne_of_gt I.big)
    obtain ⟨q1, es, ep, hq1, h2, h3, h4, _, h5⟩ := hd'
    refine ⟨.ref s.heap.objs.size, upd H s.heap.objs.size (.dT (putsV [] kvs)), I.laid (t' := tk) (fun b o e => hk b o (by simp) e) (Nat.le_refl _) ⟨hlen, hm, _, (kt_puts rel .nil).keeps fun c ys ec => ?_, q1, es, ep, hq1, h2, h3, h4, h5⟩, rfl, q _ (I.hok.fresh (Nat.le_refl _))⟩
    rw [upd_ne (ne_of_none ec (I.hok.fresh (Nat.le_refl _)))]
    exact ec
end MP

set_option Elab.async false
set_option linter.all false
set_option maxRecDepth 100000
set_option maxHeartbeats 4000000
/-! MP4c: list(zip(a, b)): the layer's side. -/
namespace MP
open PySem PySem.Spec PySem.Calls PyProof.Rows L2

theorem zq_len : typeLookup (.type "zip") "__len__" = pure none := by rw [typeLookup_type, builtinLookup_eq_fast]; kernel_rfl
theorem zq_hint : typeLookup (.type "zip") "__length_hint__" = pure none := by rw [typeLookup_type, builtinLookup_eq_fast]; kernel_rfl
/-- the objects of a zip of two lists at the addresses l, m -/
structure ZAd where
  z : Addr
  TI : Addr
  TO : Addr
  i : Addr
  j : Addr
  l : Addr
  m : Addr
abbrev ZAd.ap (a : ZAd) : Prop := ZipApart a.z a.TI a.TO a.i a.j a.l a.m
/-- k pairs were drawn; the last of them is still out -/
structure ZAt (a : ZAd) (xs ys : Array Value) (S : Addr) (k : Nat) (h : Heap) : Prop where
  pr : IsPair h a.TI (.ref a.i) (.ref a.j)
  fst : h.IsListIter a.i a.l k
  snd : h.IsListIter a.j a.m k
  ls : h.IsList a.l xs
  ms : h.IsList a.m ys
  to : ∃ u v, IsPair h a.TO u v
  z : IsZip h a.z a.TI a.TO .none ∨ ∃ T f o, IsZipHeld h a.z a.TI a.TO T f ∧ h.get? T = some o ∧ T ≠ a.z ∧ T ≠ a.i ∧ T ≠ a.j ∧ T ≠ S
theorem ZAt.stay {a : ZAd} {xs ys : Array Value} {S : Addr} {k : Nat} {h h' : Heap} (x : ZAt a xs ys S k h) (off : S ∉ [a.z, a.TI, a.TO, a.i, a.j, a.l, a.m]) (hk : ∀ b o, b ≠ S → h.get? b = some o → h'.get? b = some o) : ZAt a xs ys S k h' := by
  simp only [List.mem_cons, List.not_mem_nil, or_false, not_or] at off
  obtain ⟨n1, n2, n3, n4, n5, n6, n7⟩ := off
  refine ⟨hk _ _ (Ne.symm n2) x.pr, x.fst.at fun o e => hk _ o (Ne.symm n4) e, x.snd.at fun o e => hk _ o (Ne.symm n5) e, x.ls.at fun o e => hk _ o (Ne.symm n6) e, x.ms.at fun o e => hk _ o (Ne.symm n7) e, (let ⟨u, v, e⟩ := x.to; ⟨u, v, hk _ _ (Ne.symm n3) e⟩), ?_⟩
  rcases x.z with h1 | ⟨T, f, o, h1, h2, q1, q2, q3, q4⟩
  · exact .inl (hk _ _ (Ne.symm n1) h1)
  · exact .inr ⟨T, f, o, hk _ _ (Ne.symm n1) h1, hk _ _ q4 h2, q1, q2, q3, q4⟩
/-- what else is left alone -/
def ZOff (a : ZAd) (b : Addr) : Prop := b ≠ a.z ∧ b ≠ a.TO ∧ b ≠ a.i ∧ b ≠ a.j
structure ZLow (a : ZAd) (S : Addr) : Prop where
  z : a.z < S
  TO : a.TO < S
  i : a.i < S
  j : a.j < S
theorem ZLow.off {a : ZAd} {S p : Addr} (x : ZLow a S) (h : S ≤ p) : ZOff a p :=
  ⟨Nat.ne_of_gt (Nat.lt_of_lt_of_le x.z h), Nat.ne_of_gt (Nat.lt_of_lt_of_le x.TO h), Nat.ne_of_gt (Nat.lt_of_lt_of_le x.i h), Nat.ne_of_gt (Nat.lt_of_lt_of_le x.j h)⟩
section
variable {prog : Program} {w : World} {A : Around} {E : Value → Shared → Prop} {s : Shared} {a : ZAd} {xs ys : Array Value} {S : Addr} {k : Nat}
theorem zq_next {x y : Value} {Q : Option Value → Shared → Prop} (D : a.ap) (hS : S < s.heap.objs.size) (st : ZAt a xs ys S k s.heap) (hx : xs[k]? = some x) (hy : ys[k]? = some y)
    (hQ : ∀ h', ZAt a xs ys S (k + 1) h' → IsPair h' s.heap.objs.size x y → (∀ b o, ZOff a b → s.heap.get? b = some o → h'.get? b = some o) → Q (some (.ref s.heap.objs.size)) { s with heap := h' }) : wpAny (model prog w) A (pyNext (.ref a.z)) Q E s := by
  have new : ∀ {b : Addr} {o : Obj}, s.heap.get? b = some o → s.heap.objs.size ≠ b := fun e => Nat.ne_of_gt (Heap.lt_size e)
  obtain ⟨oi, ei, _⟩ := id st.fst
  obtain ⟨oj, ej, _⟩ := id st.snd
  obtain ⟨u, v, hto⟩ := id st.to
  rcases st.z with h1 | ⟨T, f, o, h1, h2, q1, q2, q3, q4⟩
  · refine wpAny_pyNext_zip_item D h1 st.pr hto st.fst st.snd st.ls st.ms hx hy fun h' a1 a2 a3 a4 a5 a6 kp => ?_
    refine hQ h' ⟨kp _ _ D.TIz D.TITO D.TIi1 D.TIi2 st.pr, a3, a4, st.ls.at fun o e => kp _ o D.l1z D.l1TO D.l1i1 D.l1i2 e, st.ms.at fun o e => kp _ o D.l2z D.l2TO D.l2i1 D.l2i2 e,
      ⟨_, _, a2⟩, .inr ⟨_, false, _, a1, a5, new h1, new ei, new ej, Nat.ne_of_gt hS⟩⟩ a5 fun b o n e => kp b o n.1 n.2.1 n.2.2.1 n.2.2.2 e
  · refine wpAny_pyNext_zip_item_held D h1 h2 st.pr st.fst st.snd st.ls st.ms hx hy fun h' a1 a3 a4 a5 a6 kp => ?_
    refine hQ h' ⟨kp _ _ D.TIz D.TIi1 D.TIi2 st.pr, a3, a4, st.ls.at fun o e => kp _ o D.l1z D.l1i1 D.l1i2 e, st.ms.at fun o e => kp _ o D.l2z D.l2i1 D.l2i2 e,
      ⟨u, v, kp _ _ D.TOz D.TOi1 D.TOi2 hto⟩, .inr ⟨T, true, o, a1, kp _ _ q1 q2 q3 h2, q1, q2, q3, q4⟩⟩ a5 fun b o n e => kp b o n.1 n.2.2.1 n.2.2.2 e
theorem zq_stop {Q : Option Value → Shared → Prop} (hh : A.handled = none) (D : a.ap) (st : ZAt a xs ys S k s.heap) (he : xs[k]? = none ∨ ys[k]? = none)
    (hQ : ∀ h', (∀ b o, ZOff a b → s.heap.get? b = some o → h'.get? b = some o) → Q none { s with heap := h' }) : wpAny (model prog w) A (pyNext (.ref a.z)) Q E s := by
  obtain ⟨u, v, hto⟩ := id st.to
  rcases st.z with h1 | ⟨T, f, o, h1, h2, q1, q2, q3, q4⟩
  · exact wpAny_pyNext_zip_end hh D h1 st.pr hto st.fst st.snd st.ls st.ms he fun h' kp => hQ h' fun b o n e => kp b o n.1 n.2.1 n.2.2.1 n.2.2.2 e
  · exact wpAny_pyNext_zip_end_held hh D h1 h2 st.pr st.fst st.snd st.ls st.ms he fun h' kp => hQ h' fun b o n e => kp b o n.1 n.2.2.1 n.2.2.2 e
end
/-- the pairs drawn so far: new tuples, one above the other -/
structure ZGot (xs ys : Array Value) (lo : Addr) (h : Heap) (as : List Addr) : Prop where
  up : as.Pairwise (· < ·)
  over : ∀ p ∈ as, lo < p
  is : ∀ (j : Nat) (p : Addr), as[j]? = some p → ∃ x y, xs[j]? = some x ∧ ys[j]? = some y ∧ IsPair h p x y
section
variable {prog : Program} {w : World} {A : Around} {s : Shared} {R : Result → Shared → Prop} {a : ZAd} {xs ys : Array Value} {S : Addr}
abbrev lsObj (acc : Array Value) (c : Nat) : Obj := { cls := .type "list", dict := none, data := .seq acc c, slots := #[] }
theorem zq_loop {h0 : Heap} (hh : A.handled = none) (D : a.ap) (off : S ∉ [a.z, a.TI, a.TO, a.i, a.j, a.l, a.m]) (low : ZLow a S) (hn : min xs.size ys.size ≤ sizeLine) (res : Value)
    (hR : ∀ h' tk acc c as, (∀ b o, b ≠ S → ZOff a b → h0.get? b = some o → h'.get? b = some o) → h'.get? S = some (lsObj acc c) → acc.toList = as.map Value.ref → as.length = min xs.size ys.size → ZGot xs ys S h' as → R (.ok (.ret res)) { s with heap := h', toks := tk }) :
    ∀ (more k : Nat) (h : Heap) (tk c : Nat) (acc : Array Value) (as : List Addr), more + k = min xs.size ys.size → ZAt a xs ys S k h → (∀ b o, b ≠ S → ZOff a b → h0.get? b = some o → h.get? b = some o) →
      h.get? S = some (lsObj acc c) → acc.toList = as.map Value.ref → as.length = k → ZGot xs ys S h as → codeAny (model prog w) A (.builtin "list.extend.loop" ⟨[.ref S, .ref a.z, res], []⟩) R { s with heap := h, toks := tk } := by
  intro more
  induction more with
  | zero =>
    intro k h tk c acc as hm st kp hS hacc hl g
    refine codeAny_builtin PySem.F.entry_extend_loop ?_
    rw [Around.under_plainId PySem.F.plain_extend_loop _]
    show wpAny _ A.in1 (pyNext (.ref a.z) >>= _) _ _ _
    refine wpAny_bind (zq_stop (s := { s with heap := h, toks := tk }) (A := A.in1) hh D st ?_ fun h' k' => ?_)
    · rcases Nat.le_total xs.size ys.size with q | q
      · exact .inl (Array.getElem?_eq_none (by omega))
      · exact .inr (Array.getElem?_eq_none (by omega))
    · have offS : ZOff a S := low.off (Nat.le_refl _)
      refine wpAny_pure (hR h' tk acc c as (fun b o n1 n2 e => k' b o n2 (kp b o n1 n2 e)) (k' S _ offS hS) hacc (by omega) ⟨g.up, g.over, fun j p e => ?_⟩)
      obtain ⟨x, y, e1, e2, e3⟩ := g.is j p e
      have := g.over p (List.mem_of_getElem? e)
      exact ⟨x, y, e1, e2, k' p _ (low.off (Nat.le_of_lt this)) e3⟩
  | succ more ih =>
    intro k h tk c acc as hm st kp hS hacc hl g
    have kx : k < xs.size := by omega
    have ky : k < ys.size := by omega
    have hsz : acc.size = k := by rw [← Array.length_toList, hacc, List.length_map, hl]
    have hSl : S < h.objs.size := Heap.lt_size hS
    refine codeAny_builtin PySem.F.entry_extend_loop ?_
    rw [Around.under_plainId PySem.F.plain_extend_loop _]
    show wpAny _ A.in1 (pyNext (.ref a.z) >>= _) _ _ _
    refine wpAny_bind (zq_next (s := { s with heap := h, toks := tk }) (A := A.in1) D hSl st (Array.getElem?_eq_getElem kx) (Array.getElem?_eq_getElem ky) fun h' st' pT k' => ?_)
    have offS : ZOff a S := low.off (Nat.le_refl _)
    have hS' := k' S _ offS hS
    have far : ∀ b o, b ≠ S → h'.get? b = some o → (h'.update S (Obj.mapSeq (·.push (Value.ref h.objs.size)))).get? b = some o := fun b o n e => (Heap.get?_update_other _ _ (Ne.symm n)).trans e
    show wpAny _ A.in1 (updateSeq S (·.push (Value.ref h.objs.size)) >>= _) _ _ _
    refine wpAny_bind ?_
    refine wpAny_updateSeq hS' rfl (wpAny_pure ⟨plainId_quiet PySem.F.plain_extend_loop _, ih (k + 1) _ tk _ (acc.push (Value.ref h.objs.size)) (as ++ [h.objs.size]) (by omega) (st'.stay off far)
      (fun b o n1 n2 e => far b o n1 (k' b o n2 (kp b o n1 n2 e))) (Heap.get?_update_self _ hS' rfl) (by rw [Array.toList_push, hacc, List.map_append]; rfl) (by rw [List.length_append, hl]; rfl) ⟨?_, fun p hp => ?_, fun j p e => ?_⟩⟩)
      (by rw [hsz]; omega) (by show (acc.push (Value.ref h.objs.size)).size ≤ sizeLine + 1; rw [Array.size_push, hsz]; omega)
    · refine List.pairwise_append.mpr ⟨g.up, List.pairwise_singleton _ _, fun p hp q hq => ?_⟩
      rw [List.mem_singleton.mp hq]
      obtain ⟨j, hj2⟩ := List.mem_iff_getElem?.mp hp
      obtain ⟨_, _, _, _, e⟩ := g.is j p hj2
      exact Heap.lt_size e
    · rcases List.mem_append.mp hp with hp | hp
      · exact g.over p hp
      · rw [List.mem_singleton.mp hp]; exact hSl
    · by_cases hjk : j < as.length
      · rw [List.getElem?_append_left hjk] at e
        obtain ⟨x, y, e1, e2, e3⟩ := g.is j p e
        have := g.over p (List.mem_of_getElem? e)
        exact ⟨x, y, e1, e2, far p _ (Nat.ne_of_gt this) (k' p _ (low.off (Nat.le_of_lt this)) e3)⟩
      · rw [List.getElem?_append_right (by omega)] at e
        have hj0 : j - as.length = 0 := by
          rcases Nat.eq_zero_or_pos (j - as.length) with q | q
          · exact q
          · rw [List.getElem?_eq_none (by simp; omega)] at e; cases e
        rw [hj0] at e
        cases e
        have : j = k := by omega
        subst this
        exact ⟨_, _, Array.getElem?_eq_getElem kx, Array.getElem?_eq_getElem ky, far _ _ (Nat.ne_of_gt hSl) pT⟩
end
section
variable {prog : Program} {w : World} {A : Around} {E : Value → Shared → Prop} {s : Shared} {a : ZAd} {xs ys : Array Value}
theorem zq_nohint {r : Addr} (hT : s.TypeIs (.ref r) "zip") {Q : Bool → Shared → Prop} (h : Q true s) : wpAny (model prog w) A (Builtin.List.listLengthHint (.ref r)) Q E s := by
  unfold Builtin.List.listLengthHint
  refine wpAny_bind (wpAny_specialOf hT zq_len ?_)
  refine wpAny_ite_split (fun q => absurd q (by decide +kernel)) fun _ => ?_
  refine wpAny_ite_split (fun q => absurd q (by decide)) fun _ => ?_
  refine wpAny_bind (wpAny_specialOf hT zq_hint ?_)
  exact wpAny_pure h
theorem list_zip {Q : Value → Shared → Prop} (hh : A.handled = none) (D : a.ap) (st0 : ZAt a xs ys s.heap.objs.size 0 s.heap) (fresh : IsZip s.heap a.z a.TI a.TO .none) (hn : min xs.size ys.size ≤ sizeLine)
    (hQ : ∀ h' tk acc c as, (∀ b o, ZOff a b → s.heap.get? b = some o → h'.get? b = some o) → h'.get? s.heap.objs.size = some (lsObj acc c) → acc.toList = as.map Value.ref → as.length = min xs.size ys.size → ZGot xs ys s.heap.objs.size h' as →
      Q (.ref s.heap.objs.size) { s with heap := h', toks := tk }) : wpAny (model prog w) A (call (.type "list") [.ref a.z]) Q E s := by
  have hzT : s.TypeIs (.ref a.z) "zip" := ⟨_, fresh, rfl⟩
  obtain ⟨oz, hz, hzc⟩ := id hzT
  obtain ⟨u, v, hto⟩ := id st0.to
  have lz : a.z < s.heap.objs.size := Heap.lt_size hz
  have lTI : a.TI < s.heap.objs.size := Heap.lt_size st0.pr
  obtain ⟨oi, ei, _⟩ := id st0.fst
  obtain ⟨oj, ej, _⟩ := id st0.snd
  have li := Heap.lt_size ei
  have lj := Heap.lt_size ej
  obtain ⟨ol, el, _⟩ := id st0.ls
  obtain ⟨om, em, _⟩ := id st0.ms
  have ll := Heap.lt_size el
  have lm := Heap.lt_size em
  have lTO : a.TO < s.heap.objs.size := Heap.lt_size hto
  have low : ZLow a s.heap.objs.size := ⟨lz, lTO, li, lj⟩
  have off : s.heap.objs.size ∉ [a.z, a.TI, a.TO, a.i, a.j, a.l, a.m] := by
    simp only [List.mem_cons, List.not_mem_nil, or_false, not_or]
    exact ⟨Nat.ne_of_gt lz, Nat.ne_of_gt lTI, Nat.ne_of_gt lTO, Nat.ne_of_gt li, Nat.ne_of_gt lj, Nat.ne_of_gt ll, Nat.ne_of_gt lm⟩
  have key : ∀ (A : Around) (R : Result → Shared → Prop) (h : Heap) (c tk : Nat), A.handled = none → (∀ b o, b ≠ s.heap.objs.size → s.heap.get? b = some o → h.get? b = some o) → h.get? s.heap.objs.size = some (lsObj #[] c) →
      (∀ h' tk acc c as, (∀ b o, ZOff a b → s.heap.get? b = some o → h'.get? b = some o) → h'.get? s.heap.objs.size = some (lsObj acc c) → acc.toList = as.map Value.ref → as.length = min xs.size ys.size → ZGot xs ys s.heap.objs.size h' as → R (.ok (.ret .none)) { s with heap := h', toks := tk }) →
      codeAny (model prog w) A (.builtin "list.extend.loop" ⟨[.ref s.heap.objs.size, .ref a.z, .none], []⟩) R { s with heap := h, toks := tk } := fun A R h c tk hA hk hS hR =>
    zq_loop (h0 := s.heap) hA D off low hn .none (fun h' tk acc c as kp e1 e2 e3 e4 => hR h' tk acc c as (fun b o n e => kp b o (Nat.ne_of_lt (Heap.lt_size e)) n e) e1 e2 e3 e4)
      (min xs.size ys.size) 0 h tk c #[] [] rfl (st0.stay off hk) (fun b o n _ e => hk b o n e) hS rfl rfl ⟨List.Pairwise.nil, (fun p hp => nomatch hp), fun j p e => by simp at e⟩
  refine callType_codes (Q₁ := fun obj s₁ => obj = .ref s.heap.objs.size ∧ s₁ = { s with heap := s.heap.push (lsObj #[] 0) }) PySem.F.called_list (PySem.F.typeCall_list_1 _) PySem.F.entry_list_init (code_list_new _ ⟨rfl, rfl⟩) fun obj s₁ h₁ => ?_
  obtain ⟨rfl, rfl⟩ := h₁
  have hS0 : (s.heap.push (lsObj #[] 0)).get? s.heap.objs.size = some (lsObj #[] 0) := Heap.get?_push_size _ rfl
  refine ⟨⟨_, hS0, rfl⟩, PySem.F.args_list_init_2 _ _, ?_⟩
  show wpAny _ _ (do let old ← Builtin.List.listItems (.ref s.heap.objs.size); Builtin.List.listUpdate (.ref s.heap.objs.size) (fun _ => #[]); letGo old.toList.reverse; Builtin.List.listExtendWith (.ref s.heap.objs.size) (.ref a.z) .none) _ _ _
  refine wpAny_bind ?_
  unfold Builtin.List.listItems
  refine wpAny_bind (wpAny_seqItems hS0 rfl (wpAny_pure ?_))
  show wpAny _ _ (updateSeq s.heap.objs.size (fun _ => #[]) >>= fun _ => letGo (#[] : Array Value).toList.reverse >>= fun _ => Builtin.List.listExtendWith (.ref s.heap.objs.size) (.ref a.z) .none) _ _ _
  refine wpAny_bind (wpAny_updateSeq hS0 rfl ?_)
  have hS1 := Heap.get?_update_self (Obj.mapSeq (fun _ => (#[] : Array Value))) hS0 rfl
  have k1 : ∀ b o, b ≠ s.heap.objs.size → s.heap.get? b = some o → ((s.heap.push (lsObj #[] 0)).update s.heap.objs.size (Obj.mapSeq (fun _ => (#[] : Array Value)))).get? b = some o :=
    fun b o n e => (Heap.get?_update_other _ _ (Ne.symm n)).trans (Heap.get?_push_of_some _ e)
  refine wpAny_bind (wpAny_letGo ?_)
  unfold Builtin.List.listExtendWith
  have hzT1 : Shared.TypeIs { s with heap := (s.heap.push (lsObj #[] 0)).update s.heap.objs.size (Obj.mapSeq (fun _ => (#[] : Array Value))) } (.ref a.z) "zip" := ⟨oz, k1 _ _ (Nat.ne_of_lt lz) hz, hzc⟩
  refine wpAny_bind (wpAny_typeOf (T := "zip") hzT1 ?_)
  have b1 : Builtin.List.listSameRef (.ref s.heap.objs.size) (.ref a.z) = false := by simp [Builtin.List.listSameRef, Nat.ne_of_gt lz]
  have b2 : (Value.type "zip" == Value.type "list") = false := by decide
  have b3 : (Value.type "zip" == Value.type "tuple") = false := by decide
  simp only [b1, b2, b3, Bool.or_false, Bool.false_eq_true, if_false]
  have stn := st0.stay off k1
  have itr : ∀ {A : Around} {E : Value → Shared → Prop} {Q : Value → Shared → Prop}, Q (.ref a.z) { s with heap := (s.heap.push (lsObj #[] 0)).update s.heap.objs.size (Obj.mapSeq (fun _ => (#[] : Array Value))) } →
      wpAny (model prog w) A (pyIter (.ref a.z)) Q E { s with heap := (s.heap.push (lsObj #[] 0)).update s.heap.objs.size (Obj.mapSeq (fun _ => (#[] : Array Value))) } := fun {A E Q} q => wpAny_pyIter_zip (s := { s with heap := _ }) (k1 _ _ (Nat.ne_of_lt lz) fresh) q
  refine wpAny_bind (itr ?_)
  refine wpAny_bind (wpAny_holding (zq_nohint hzT1 ?_))
  refine wpAny_ite_split (fun _ => ?_) (fun q => absurd rfl q)
  refine wpAny_bind (wpAny_rule ?_)
  refine wpAny_bind ?_
  show wpAny _ _ (updateSeq s.heap.objs.size (·.push .none) >>= fun _ => updateSeq s.heap.objs.size (·.pop)) _ _ _
  refine wpAny_bind (wpAny_updateSeq hS1 rfl ?_)
  have hS2 := Heap.get?_update_self (Obj.mapSeq (·.push Value.none)) hS1 rfl
  refine wpAny_updateSeq (hz := by seq_fits) hS2 rfl ?_
  have hS3 := Heap.get?_update_self (Obj.mapSeq (·.pop)) hS2 rfl
  refine wpAny_pure ⟨plainId_quiet PySem.F.plain_extend_loop _, key _ _ _ _ _ hh (fun b o n e => ?_) hS3 fun h' tk acc c as kp e1 e2 e3 e4 => ?_⟩
  · exact (Heap.get?_update_other _ _ (Ne.symm n)).trans ((Heap.get?_update_other _ _ (Ne.symm n)).trans (k1 b o n e))
  · exact ⟨rfl, hQ h' tk acc c as kp e1 e2 e3 e4⟩
end
end MP

set_option Elab.async false
set_option linter.all false
set_option maxRecDepth 100000
set_option maxHeartbeats 4000000
/-! MP4f: min of four numbers. -/
namespace MP
open PySem PySem.Spec PyProof.Rows L2
section
variable {prog : Program} {w : World} {A : Around} {E : Value → Shared → Prop} {s : Shared}
theorem args_min4 (a b c d : Value) : argsOk "min" ⟨[a, b, c, d], []⟩ := by unfold argsOk; kernel_rfl
/-- min(a, b, c, d): one of them, none is less -/
theorem min_four {ps : List (Int × Tok)} {a b c d : Value} (hs : ps.map (fun p => Value.int p.1 p.2) = [a, b, c, d]) {Q : Value → Shared → Prop} (calm : A.handled = none)
    (q : ∀ h' tk m t, m ∈ ps.map (·.1) → (∀ j ∈ ps.map (·.1), m ≤ j) → (∀ e o, s.heap.get? e = some o → h'.get? e = some o) → Q (.int m t) { s with heap := h', toks := tk }) : wpAny (model prog w) A (call (.builtin "min") [a, b, c, d]) Q E s := by
  have nm : (toString "min" ++ toString ".loop" : String) = "min.loop" := by decide
  refine call_function_tree F.kind_min F.plain_min F.entry_min (args_min4 _ _ _ _) ?_
  show wpAny _ A.in1 (Builtin.Builtins.bindParams "min" ["key", "default"] 0 ⟨([] : List Value), []⟩ >>= _) _ _ s
  refine wpAny_bind (wpAny_of_eq (show Builtin.Builtins.bindParams "min" ["key", "default"] 0 ⟨([] : List Value), []⟩ = pure [none, none] from rfl) ?_)
  show wpAny _ A.in1 (newTuple [a, b, c, d] >>= _) _ _ s
  rw [← hs]
  have len : ps.length = 4 := by have := congrArg List.length hs; rwa [List.length_map] at this
  generalize hus : ps.map (fun p => Value.int p.1 p.2) = us
  have ul : us.length = 4 := by rw [← hus, List.length_map]; exact len
  refine wpAny_bind (wpAny_newObj_type ?_ (by show us.toArray.size ≤ sizeLine; rw [List.size_toArray, ul]; decide))
  have at1 : (s.heap.push { cls := .type "tuple", data := .seq us.toArray }).IsTuple s.heap.objs.size us.toArray := ⟨_, Heap.get?_push_size _ rfl, rfl, 0, rfl⟩
  have sz : (s.heap.push { cls := .type "tuple", data := .seq us.toArray }).objs.size = s.heap.objs.size + 1 := Heap.size_push ..
  refine wpAny_bind (wpAny_pyIter_tuple at1 ?_)
  refine wpAny_bind (wpAny_newObj_type ?_)
  rw [nm]
  have val : ∀ (i : Nat) (v : Value), us.toArray[i]? = some v → ∃ t, v = Value.int ((ps.map (·.1)).getD i 0) t := fun i v hv => by
    have hv : us[i]? = some v := by simpa using hv
    rw [← hus, List.getElem?_map] at hv
    cases hp : ps[i]? with
    | none => rw [hp] at hv; cases hv
    | some p =>
      rw [hp] at hv
      refine ⟨p.2, ?_⟩
      rw [List.getD_eq_getElem?_getD, List.getElem?_map, hp]
      exact (Option.some.inj hv).symm
  have W := Walks.tuple (prog := prog) (w := w) (A := A.in1) calm (s.heap.objs.size + 1) s.heap.objs.size (Nat.ne_of_lt (Nat.lt_succ_self _)) us.toArray
  have st : ((s.heap.push { cls := .type "tuple", data := .seq us.toArray }).push { cls := .type "tuple_iterator", data := .fields #[.ref s.heap.objs.size, .int 0 0] }).IsTupleIter (s.heap.objs.size + 1) s.heap.objs.size 0 := by
    have := Heap.get?_push_size (s.heap.push { cls := .type "tuple", data := .seq us.toArray }) (o := { cls := .type "tuple_iterator", data := .fields #[.ref s.heap.objs.size, .int 0 0] }) rfl
    rw [sz] at this
    exact ⟨_, this, rfl, rfl⟩
  have sz2 : ((s.heap.push { cls := .type "tuple", data := .seq us.toArray }).push { cls := .type "tuple_iterator", data := .fields #[.ref s.heap.objs.size, .int 0 0] }).objs.size = s.heap.objs.size + 2 := by rw [Heap.size_push, sz]
  have out : s.heap.objs.size + 2 ∉ [s.heap.objs.size + 1, s.heap.objs.size] := by simp only [List.mem_cons, List.not_mem_nil, or_false, not_or]; exact ⟨Nat.ne_of_gt (Nat.lt_succ_self _), Nat.ne_of_gt (Nat.lt_succ_of_lt (Nat.lt_succ_self _))⟩
  rw [sz] at *
  refine wpAny_pure ⟨plainId_quiet F.plain_min_loop _, ?_⟩
  show codeAny _ A (.builtin "min.loop" ⟨[.ref (s.heap.objs.size + 1), .none, .ref _], []⟩) _ _
  rw [sz2]
  refine codeAny_min_loop_first W _ (CmpOf.ints_lt (fun i => (ps.map (·.1)).getD i 0) val) (s.heap.objs.size + 2) out (by rw [List.size_toArray, ul]; decide) (W.frame _ _ _ ⟨st, at1.push _⟩ fun b _ o e => Heap.get?_push_of_some _ e) (by
    have := Heap.get?_push_size ((s.heap.push { cls := .type "tuple", data := .seq us.toArray }).push { cls := .type "tuple_iterator", data := .fields #[.ref s.heap.objs.size, .int 0 0] }) (o := { cls := .type "list", data := .seq #[] }) rfl
    rw [sz2] at this
    exact this) fun v h' tk pv k => ?_
  obtain ⟨t, rfl⟩ := val _ v pv
  obtain ⟨b1, b2⟩ := argBest_lt (fun i => (ps.map (·.1)).getD i 0) (us.toArray.size - 1)
  have z3 : us.toArray.size - 1 = 3 := by rw [List.size_toArray, ul]
  rw [z3] at b1 b2 ⊢
  have pl : (ps.map (·.1)).length = 4 := by rw [List.length_map]; exact len
  have mem : ∀ i, i ≤ 3 → (ps.map (·.1)).getD i 0 ∈ ps.map (·.1) := fun i hi => by
    rw [List.getD_eq_getElem?_getD, List.getElem?_eq_getElem (by omega)]
    exact List.getElem_mem _
  refine q h' tk _ t (mem _ b1) (fun j hj => ?_) fun e o ho => ?_
  · obtain ⟨i, hi, rfl⟩ := List.mem_iff_getElem.mp hj
    have := b2 i (by omega)
    rw [List.getD_eq_getElem?_getD (i := i), List.getElem?_eq_getElem hi] at this
    exact this
  · have lt := Heap.lt_size ho
    refine k e o ?_ (Nat.ne_of_lt (Nat.lt_succ_of_lt (Nat.lt_succ_of_lt lt))) (Heap.get?_push_of_some _ (Heap.get?_push_of_some _ (Heap.get?_push_of_some _ ho)))
    intro z
    rw [List.mem_singleton.mp z] at lt
    exact absurd (Nat.lt_trans (Nat.lt_succ_self _) lt) (Nat.lt_irrefl _)
def rMin4 : List V → Hp → VK → Prop := fun xs H Q => ∃ i j k l : Int, xs = [.int i, .int j, .int k, .int l] ∧ ∀ m, m ∈ [i, j, k, l] → (∀ y ∈ [i, j, k, l], m ≤ y) → Q (.int m) H
theorem call_min4 {X : Cx} (hc : X.calm = true) : CallR X (.builtin "min") rMin4 := by
  intro pins s σ H xs us Q I r h
  obtain ⟨i, j, k, l, rfl, q⟩ := h
  obtain _ | ⟨⟨t1, rfl⟩, _ | ⟨⟨t2, rfl⟩, _ | ⟨⟨t3, rfl⟩, _ | ⟨⟨t4, rfl⟩, _ | _⟩⟩⟩⟩ := r
  exact min_four (ps := [(i, t1), (j, t2), (k, t3), (l, t4)]) rfl (I.ok.hd hc) fun h' tk m t hm hy k => ⟨.int m, H, I.kept k, ⟨t, rfl⟩, q m hm hy⟩
end
end MP

set_option Elab.async false
set_option linter.all false
set_option maxRecDepth 100000
set_option maxHeartbeats 4000000
/-! MP4g: t[1::-1] of a tuple of two or more. -/
namespace MP
open PySem PySem.Spec PyProof.Rows L2
section
variable {prog : Program} {w : World} {A : Around} {E : Value → Shared → Prop} {s : Shared}
theorem applied_back {sl : Addr} {t t2 : Tok} {n : Nat} {Q : Int × Int × Nat → Shared → Prop} (hs : s.heap.IsSliceOf sl (.int 1 t) .none (.int (-1) t2)) (hn : 2 ≤ n) (h : Q (1, -1, 2) s) :
    wpAny (model prog w) A (Builtin.Slice.sliceApplied (.ref sl) (pure (n : Int))) Q E s := by
  obtain ⟨o, o1, o2, o3⟩ := id hs
  unfold Builtin.Slice.sliceApplied Builtin.Slice.sliceFields
  refine wpAny_bind (wpAny_bind (wpAny_field o1 o3 (x := .int 1 t) rfl (wpAny_bind (wpAny_field o1 o3 (x := .none) rfl (wpAny_bind (wpAny_field o1 o3 (x := .int (-1) t2) rfl (wpAny_pure ?_)))))))
  refine wpAny_bind (HT.slicePart_ (.int (-1) t2) ?_)
  show wpAny _ _ (if ((-1 : Int) == 0) = true then _ else _) _ _ s
  rw [if_neg (by decide)]
  refine wpAny_bind (HT.slicePart_ (.int 1 t) (wpAny_bind (HT.slicePart_ .none (wpAny_bind (wpAny_pure ?_)))))
  have e1 : Builtin.Slice.sliceAdjust (some 1) none (-1) (n : Int) = (1, -1) := by
    unfold Builtin.Slice.sliceAdjust
    have h1 : (-1 : Int) < 0 := by decide
    have h2 : ¬ ((1 : Int) < 0) := by decide
    simp only [h1, h2, if_true, if_false]
    rw [show min (1 : Int) ((n : Int) - 1) = 1 by omega]
  show wpAny _ _ (match Builtin.Slice.sliceAdjust (some 1) none (-1) (n : Int) with | (lo, hi) => pure (lo, (-1 : Int), Builtin.Slice.slicePlaces lo hi (-1))) _ _ s
  rw [e1]
  exact wpAny_pure h
theorem get_back {a sl : Addr} {u v : Value} {r : List Value} {t t2 : Tok} {Q : Value → Shared → Prop} (ha : IsTup s.heap a (u :: v :: r).toArray) (hs : s.heap.IsSliceOf sl (.int 1 t) .none (.int (-1) t2))
    (h : Q (.ref s.heap.objs.size) { s with heap := s.heap.push { cls := .type "tuple", data := .seq #[v, u] } }) : wpAny (model prog w) A (getItem (.ref a) (.ref sl)) Q E s := by
  obtain ⟨o, o1, o2, o3⟩ := id hs
  have ty : s.TypeIs (.ref sl) "slice" := ⟨o, o1, o2⟩
  have sz : sizeOk (.seq #[v, u]) := by show 2 ≤ sizeLine; decide
  unfold getItem
  try with_reducible refine wpAny_holding ?_
  first | refine wpAny_bind (wpAny_pure ?_) | skip
  refine wpAny_bind (wpAny_sequenceKey ha.typeIs (by decide) (wpAny_bind (wpAny_callSpecial?_slot (name := Str.ofString "__getitem__") ha.typeIs PyProof.Rows.slot_tuple_getitem
    (wpAny_call_entry PyProof.Rows.slot_tuple_getitem ha.typeIs PyProof.Rows.entry_tuple_getitem ?_ (PyProof.Rows.args_tuple_getitem _ _)))))
  show wpAny _ _ (Builtin.Tuple.tupleItemsOf (Value.ref a) >>= _) _ _ s
  refine wpAny_bind (PyProof.Rows.tupleItemsOf_ ha (wpAny_bind (wpAny_typeOf ty ?_)))
  rw [if_pos (by decide)]
  refine wpAny_bind (applied_back hs (by rw [List.size_toArray, List.length_cons, List.length_cons]; omega) ?_)
  show wpAny _ _ (if ((1 : Int) == 0 && (-1 : Int) == 1 && 2 == (u :: v :: r).toArray.size) = true then _ else _) _ _ s
  rw [if_neg (by simp)]
  have pick : ((List.range 2).filterMap fun (m : Nat) => (u :: v :: r).toArray[((1 : Int) + (m : Int) * (-1)).toNat]?).toArray = #[v, u] := rfl
  rw [pick]
  first
    | exact wpAny_bind (m := Builtin.Tuple.tupleExact _) (wpAny_newObj_type (wpAny_pure ⟨_, rfl, wpAny_pure h⟩) sz)
    | exact wpAny_bind (m := Builtin.Tuple.tupleExact _) (wpAny_newObj_type (wpAny_bind (wpAny_pure (wpAny_pure ⟨_, rfl, wpAny_pure h⟩))) sz)
    | exact wpAny_bind (wpAny_bind (m := Builtin.Tuple.tupleExact _) (wpAny_newObj_type (wpAny_pure (wpAny_pure ⟨_, rfl, wpAny_pure h⟩)) sz))
    | exact wpAny_bind (wpAny_bind (m := Builtin.Tuple.tupleExact _) (wpAny_newObj_type (wpAny_pure ⟨_, rfl, wpAny_pure h⟩) sz))
end
section
variable {X : Cx}
def tBack (K : PySem.W.Frag) (te tl ts : TE) : TE := fun σ H Q => te σ H fun x H1 => tPart tl σ H1 fun l H2 => tPart ts σ H2 fun o H3 => l = some 1 ∧ o = some (-1) ∧ ∃ a u v r, x = .ref a ∧ SqT K H3 a (u :: v :: r) ∧ ∀ p, H3 p = none → Q (.ref p) (upd H3 p (.tup [v, u]))
theorem pe_back {e lo st : Expr} {te tl ts : TE} {p3 pos : Pos} (he : PE X e te) (hl : PE X lo tl) (hs : PE X st ts) : PE X (.Subscript e (.Slice (some lo) none (some st) p3) pos) (tBack X.K te tl ts) := by
  refine ⟨fun pins s σ H Q I h => ?_⟩
  refine Subscript_ (thn (he.run pins s σ H _ I h) fun v s1 ⟨x, H1, I1, r1, q1⟩ => ?_)
  have hlo : PO X (some lo) (tPart tl) := po_some hl
  have hst : PO X (some st) (tPart ts) := po_some hs
  refine wpAny_Slice (thn (hlo.run pins s1 σ H1 _ I1 q1) fun vl s2 ⟨l, H2, I2, pl, q2⟩ => ?_)
  refine thn (po_none.run pins s2 σ H2 (fun o H3 => o = none ∧ H3 = H2) I2 ⟨rfl, rfl⟩) fun vu s3 ⟨u, H3, I3, pu, eu, e3⟩ => ?_
  subst eu e3
  refine thn (hst.run pins s3 σ H3 _ I3 q2) fun vs s4 ⟨o, H4, I4, ps, q3⟩ => ?_
  obtain ⟨el, eo, a, u, v', r, ex, hx, q⟩ := q3
  subst el eo ex
  cases r1
  obtain ⟨t1, rfl⟩ : ∃ t, vl = Value.int 1 t := by cases pl; exact ⟨_, rfl⟩
  obtain ⟨t2, rfl⟩ : ∃ t, vs = Value.int (-1) t := by cases ps; exact ⟨_, rfl⟩
  obtain rfl : vu = Value.none := by cases pu; rfl
  have I5 : Inv X pins σ H4 { s4 with heap := s4.heap.push { cls := .type "slice", data := .fields #[.int 1 t1, .none, .int (-1) t2] } } := I4.kept (t' := s4.toks) fun b ob z => Heap.get?_push_of_some _ z
  obtain ⟨its, rv, ht, hz⟩ := I5.tuple hx
  obtain _ | ⟨ru, _ | ⟨rv', rr⟩⟩ := rv
  show wpAny (model X.prog X.w) X.A (subscriptTail e (.Slice (some lo) none (some st) p3) (.ref a) (.ref s4.heap.objs.size)) (EP X pins σ Q) X.xe { s4 with heap := s4.heap.push { cls := .type "slice", data := .fields #[.int 1 t1, .none, .int (-1) t2] } }
  refine tail_any (ops := [.ref a, .ref s4.heap.objs.size]) ht.typeIs (PyProof.Rows.slot_tuple_getitem.lookup) ?_ (by with_unfolding_all rfl)
  refine get_back ht (Heap.IsSliceOf.new ..) ?_
  exact ⟨.ref _, _, I5.laid (t' := s4.toks) (o := .tup [v', u]) (fun b ob z => Heap.get?_push_of_some _ z) (Nat.le_refl _) ⟨by show 2 ≤ sizeLine; decide, _, .cons rv' (.cons ru .nil), IsTup.new _ _⟩, rfl, q _ (I5.hok.fresh (Nat.le_refl _))⟩
end
end MP

set_option Elab.async false
set_option linter.all false
set_option maxRecDepth 100000
set_option maxHeartbeats 4000000
/-! MP5: built-ins and methods by value. -/
namespace MP
open PySem PySem.Spec PyProof.Rows L2

theorem intsW_v {K : KH} {F : Hp} : ∀ {ws : List W} {ns : List Int} {vs : List V}, intsW ws = some ns → RepL K F ws vs → vs = ns.map V.int
  | [], _, _, h, .nil => by cases h; rfl
  | w :: ws, ns, _, h, .cons a b => by
    cases w with
    | int i =>
      cases a
      unfold intsW at h
      cases e : intsW ws with
      | none => rw [e] at h; cases h
      | some ms =>
        rw [e] at h
        cases h
        rw [intsW_v e b]
        rfl
    | _ => cases h
theorem blsW_v {K : KH} {F : Hp} : ∀ {ws : List W} {ns : List Bool} {vs : List V}, blsW ws = some ns → RepL K F ws vs → vs = ns.map V.bl
  | [], _, _, h, .nil => by cases h; rfl
  | w :: ws, ns, _, h, .cons a b => by
    cases w with
    | bl i =>
      cases a
      unfold blsW at h
      cases e : blsW ws with
      | none => rw [e] at h; cases h
      | some ms =>
        rw [e] at h
        cases h
        rw [blsW_v e b]
        rfl
    | _ => cases h
def rMaxD (K : PySem.W.Frag) : List V → Hp → VK → Prop := fun vs H Q => ∃ (a : Addr) (xs : List V) (d : PyData) (ds : List PyData), vs = [.ref a] ∧ SqL K H a xs ∧ DpAll K H xs (d :: ds) ∧ PySem.W.AlikeAll (d :: ds) ∧ SeqAt.shaped (.list (d :: ds)) = true ∧
  ∀ (i : Nat) x, xs[i]? = some x → (d :: ds)[i]? = some (PySem.W.maxD d ds) → Q x H
/-- is it a built-in function or a class -/
def Blt.val : Blt → Value
  | .int => .type "int" | .str => .type "str" | .list => .type "list" | .tuple => .type "tuple" | .dictK => .type "dict" | .dictT => .type "dict" | .listK => .type "list"
  | .len => .builtin "len" | .abs => .builtin "abs" | .min2 => .builtin "min" | .min4 => .builtin "min" | .max2 => .builtin "max" | .minL => .builtin "min" | .maxL => .builtin "max" | .maxD => .builtin "max"
  | .sum => .builtin "sum" | .all => .builtin "all" | .any => .builtin "any" | .sortD => .builtin "sorted"
def rSortD (K : PySem.W.Frag) : List V → Hp → VK → Prop := fun vs H Q => ∃ (a : Addr) (xs : List V) (ds : List PyData), vs = [.ref a] ∧ SqL K H a xs ∧ DpAll K H xs ds ∧ PySem.W.AllAlike ds ∧ PySem.W.Sortable ds ∧ SeqAt.shaped (.list ds) = true ∧
  ∀ p, H p = none → Q (.ref p) (upd H p (.lst (((xs.zip ds).mergeSort (PySem.W.dataLe false fun q : V × PyData => q.2)).map (·.1))))
def rTupleX (K : PySem.W.Frag) : List V → Hp → VK → Prop := fun xs H Q => ∃ p ys, xs = [.ref p] ∧ ((SqL K H p ys ∧ ∀ l, H l = none → Q (.ref l) (upd H l (.tup ys))) ∨ (SqT K H p ys ∧ Q (.ref p) H))
abbrev PrsK (H : Hp) : List Addr → List (Key × V) → Prop := Paired fun p kv => H p = some (.tup [kV kv.1, kv.2])
def rDictK (K : PySem.W.Frag) : List V → Hp → VK → Prop := fun xs H Q => ∃ (a : Addr) (ps : List Addr) (kvs : List (Key × V)), xs = [.ref a] ∧ SqL K H a (ps.map V.ref) ∧ PrsK H ps kvs ∧ ∀ p, H p = none → Q (.ref p) (upd H p (.dK (mergeK [] kvs)))
theorem call_dictK {X : Cx} (hc : X.calm = true) : CallR X (.type "dict") (rDictK X.K) := fun pins s σ H xs us Q I r ⟨a, ps, kvs, h1, h2, h3, q⟩ =>
  call_dictP hc pins s σ H xs us Q I r ⟨a, ps, kvs, h1, h2, Paired.mapP h3 fun _ _ z => .of z, q⟩
def rBlt (K : PySem.W.Frag) : Blt → List V → Hp → VK → Prop
  | .len => fun xs H Q => (∃ x n, xs = [x] ∧ LenV K x H n ∧ Q (.int n) H) ∨ (∃ a kvs, xs = [.ref a] ∧ Rd H a (.dK kvs) ∧ Q (.int (kvs.length : Nat)) H) ∨ ∃ a kvs, xs = [.ref a] ∧ Rd H a (.dT kvs) ∧ Q (.int (kvs.length : Nat)) H
  | .abs => fun xs H Q => ∃ i, xs = [.int i] ∧ Q (.int (if i < 0 then -i else i)) H
  | .min2 => fun xs H Q => ∃ i j, xs = [.int i, .int j] ∧ Q (.int (if j < i then j else i)) H
  | .min4 => rMin4
  | .max2 => fun xs H Q => ∃ i j, xs = [.int i, .int j] ∧ Q (.int (if j > i then j else i)) H
  | .minL => rMin K
  | .maxL => rMax K
  | .maxD => rMaxD K
  | .sum => rSum K
  | .all => rAll K
  | .any => rAny K
  | .int => fun xs H Q => (∃ i, xs = [.int i] ∧ Q (.int i) H) ∨ ∃ k, xs = [.bl k] ∧ Q (.int (if k then 1 else 0)) H
  | .str => fun xs H Q => ∃ i, xs = [.int i] ∧ i.natAbs.log2 < 1920 ∧ Q (.str (toString i)) H
  | .list => fun xs H Q => ∃ p ys, xs = [.ref p] ∧ (SqL K H p ys ∨ SqT K H p ys) ∧ ∀ l, H l = none → Q (.ref l) (upd H l (.lst ys))
  | .tuple => rTupleX K
  | .sortD => rSortD K
  | .dictK => rDictK K
  | .dictT => rDictT K
  | .listK => rListD
theorem call_lenK {X : Cx} : CallR X (.builtin "len") (fun xs H Q => ∃ a kvs, xs = [.ref a] ∧ Rd H a (.dK kvs) ∧ Q (.int (kvs.length : Nat)) H) := by
  intro pins s σ H xs us Q I r h
  obtain ⟨a, kvs, rfl, e, q⟩ := h
  obtain ⟨u, rfl, ru⟩ := vals1 r
  cases ru
  exact d_len I e fun t s' I' => ⟨.int _, H, I', ⟨_, rfl⟩, q⟩
theorem call_lenT {X : Cx} : CallR X (.builtin "len") (fun xs H Q => ∃ a kvs, xs = [.ref a] ∧ Rd H a (.dT kvs) ∧ Q (.int (kvs.length : Nat)) H) := by
  intro pins s σ H xs us Q I r h
  obtain ⟨a, kvs, rfl, e, q⟩ := h
  obtain ⟨u, rfl, ru⟩ := vals1 r
  cases ru
  obtain ⟨z, hd, xs, kt, dd⟩ := dt_rd I.hok e
  have hl : xs.length = kvs.length := (Paired.length kt).symm
  have hs : (sizeLine : Nat) < 2 ^ 63 := line63
  refine PySem.call_len_dictH hd dd (by omega) ?_
  rw [hl]
  exact ⟨.int _, H, I.tok _, ⟨_, rfl⟩, q⟩
theorem getElem_getD {xs : List PyData} {i : Nat} (h : i < xs.length) : xs[i]? = some (xs.getD i .none) := by
  rw [List.getD_eq_getElem?_getD, List.getElem?_eq_getElem h]; rfl
theorem can_mem : ∀ {ds : List PyData}, PyData.canLayAll0 ds = true → ∀ d ∈ ds, d.canLay0 = true
  | e :: ds, h, d, hd => by
    have h' : (e.canLay0 && PyData.canLayAll0 ds) = true := h
    rw [Bool.and_eq_true] at h'
    rcases List.mem_cons.mp hd with rfl | hd
    · exact h'.1
    · exact can_mem h'.2 d hd
theorem call_maxD {X : Cx} (hc : X.calm = true) (hu : X.A.units + 66 < cLine) : CallR X (.builtin "max") (rMaxD X.K) := by
  intro pins s σ H vs us Q I r h
  obtain ⟨a, xs, d, ds, rfl, hs, hd, al, sh, q⟩ := h
  obtain ⟨its, rv, hl, hz⟩ := I.list hs
  rw [Vals.ref1 r]
  obtain ⟨as, ra⟩ := Dp.readsAll I (d :: ds) xs its hd rv
  have dep : (PyData.list (d :: ds)).depth ≤ 64 := SeqAt.depth_of_shaped sh
  have can : PyData.canLayAll0 (d :: ds) = true := SeqAt.canLay_of_shaped sh
  have dep2 : PyData.depthAll (d :: ds) + 1 ≤ 64 := dep
  refine PySem.W.max_list_data (vs := its.toArray) (as := as) (I.ok.hd hc) hl.isList (by simpa using ra) al (by omega) fun i v h' tk bs hv rd hk => ?_
  have hv' : its[i]? = some v := by simpa using hv
  obtain ⟨bs2, r2, hi, hm, _⟩ := PySem.W.readsAll_at ra i v hv'
  have e := (PySem.Reads.unique (PySem.W.reads_keeps hk r2) _ _ rd).1
  have hx : i < xs.length := by
    have e1 := rv.length
    have := (List.getElem?_eq_some_iff.mp hv').1
    omega
  obtain ⟨u, hu2, ru⟩ := Vals.get rv (List.getElem?_eq_getElem hx)
  rw [hv'] at hu2
  cases hu2
  exact ⟨xs[i], H, I.kept (t' := tk) fun b o e => hk b o e, ru, q i _ (List.getElem?_eq_getElem hx) (by rw [getElem_getD hi, e])⟩
theorem dep_mem : ∀ {ds : List PyData} {d : PyData}, d ∈ ds → d.depth ≤ PyData.depthAll ds
  | e :: ds, d, h => by
    show _ ≤ max e.depth (PyData.depthAll ds)
    rcases List.mem_cons.mp h with rfl | h
    · omega
    · have := dep_mem h; omega
theorem dpAll_len {K : PySem.W.Frag} {H : Hp} : ∀ {xs : List V} {ds : List PyData}, DpAll K H xs ds → xs.length = ds.length
  | _, _, .nil => rfl
  | _, _, .cons _ r => by rw [List.length_cons, List.length_cons, dpAll_len r]
theorem each_zip {X : Cx} {h : Heap} : ∀ {xs : List V} {its : List Value} {ds : List PyData} {as : List Addr}, Vals xs its → PySem.ReadsAll h its ds as → PySem.W.EachIs (fun u (q : V × PyData) => RelV q.1 u) its (xs.zip ds) ∧ PySem.W.EachIs (fun u (q : V × PyData) => ∃ as, PySem.Reads h u q.2 as) its (xs.zip ds)
  | _, _, _, _, .nil, .nil => ⟨.nil, .nil⟩
  | _, _, _, _, .cons a r, .cons b t => by
    obtain ⟨h1, h2⟩ := each_zip (X := X) r t
    exact ⟨.cons a h1, .cons ⟨_, b⟩ h2⟩
theorem each_vals : ∀ {out : List Value} {qs : List (V × PyData)}, PySem.W.EachIs (fun u (q : V × PyData) => RelV q.1 u) out qs → Vals (qs.map (·.1)) out
  | _, _, .nil => .nil
  | _, _, .cons a r => .cons a (each_vals r)
theorem call_sortD {X : Cx} (hc : X.calm = true) (hu : X.A.units + 66 < cLine) : CallR X (.builtin "sorted") (rSortD X.K) := by
  intro pins s σ H vs us Q I r h
  obtain ⟨a, xs, ds, rfl, hs, hd, al, so, sh, q⟩ := h
  obtain ⟨its, rv, hl, hz⟩ := I.list hs
  rw [Vals.ref1 r]
  obtain ⟨as, ra⟩ := Dp.readsAll I ds xs its hd rv
  have dep : (PyData.list ds).depth ≤ 64 := SeqAt.depth_of_shaped sh
  have dep2 : PyData.depthAll ds + 1 ≤ 64 := dep
  have hlen := dpAll_len hd
  obtain ⟨e1, e2⟩ := each_zip (X := X) rv ra
  have hm : (xs.zip ds).map (fun q : V × PyData => q.2) = ds := List.map_snd_zip (by omega)
  have hzl : (xs.zip ds).length = xs.length := by rw [List.length_zip]; omega
  refine PySem.W.sorted_data (bs := xs.zip ds) (enc := fun q : V × PyData => q.2) (vs := its) hl.isList e1 e2 (by rw [hm]; exact al) (by rw [hm]; exact so) (by rw [hzl]; exact hz) (fun b hb => ?_) fun out ho eo => ?_
  · have : b.2 ∈ ds := by rw [← hm]; exact List.mem_map.mpr ⟨b, hb, rfl⟩
    have := dep_mem this
    omega
  · obtain ⟨ep, he'⟩ := PyProof.Rows.sortedAll_at s.heap its out.toArray
    have hv := each_vals eo
    refine ⟨.ref _, upd H (s.heap.objs.size + 1) (.lst _), I.laid (t' := s.toks) (fun _ _ => PyProof.Rows.sortedAll_old) (Nat.le_succ _) ⟨?_, out, ep, hv, he'⟩, rfl, q _ (I.hok.fresh (Nat.le_succ _))⟩
    rw [hv.length, ho, hzl]; exact hz
theorem call_blt {X : Cx} (hc : X.calm = true) (hu : X.A.units + 66 < cLine) : ∀ b : Blt, CallR X b.val (rBlt X.K b)
  | .len => call_len.or (call_lenK.or call_lenT)
  | .abs => call_abs
  | .min2 => call_min2 hc
  | .min4 => call_min4 hc
  | .max2 => call_max2 hc
  | .minL => cr_min hc
  | .maxL => cr_max hc
  | .maxD => call_maxD hc hu
  | .sum => cr_sum hc
  | .all => cr_all hc
  | .any => cr_any hc
  | .int => call_int1
  | .str => call_str_int
  | .list => call_list_of
  | .tuple => call_tuple_of
  | .sortD => call_sortD hc hu
  | .dictK => call_dictK hc
  | .dictT => call_dictT hc hu
  | .listK => call_list_dK hc
theorem repL_zip {K : KH} {F : Hp} : ∀ {ws : List W} {vs : List V}, RepL K F ws vs → ∀ ds : List PyData, ∃ zs : List (W × V × PyData), ws.zip ds = zs.map (fun z => (z.1, z.2.2)) ∧ vs.zip ds = zs.map (fun z => (z.2.1, z.2.2)) ∧ ∀ z ∈ zs, Rep K F z.1 z.2.1
  | _, _, .nil, ds => ⟨[], by simp, by simp, fun z h => by cases h⟩
  | _, _, .cons _ _, [] => ⟨[], rfl, rfl, fun z h => by cases h⟩
  | w :: ws, v :: vs, .cons a r, d :: ds => by
    obtain ⟨zs, h1, h2, h3⟩ := repL_zip r ds
    refine ⟨(w, v, d) :: zs, by rw [List.zip_cons_cons, h1]; rfl, by rw [List.zip_cons_cons, h2]; rfl, fun z h => ?_⟩
    rcases List.mem_cons.mp h with rfl | h
    · exact a
    · exact h3 z h
theorem repL_of {K : KH} {F : Hp} : ∀ {zs : List (W × V × PyData)}, (∀ z ∈ zs, Rep K F z.1 z.2.1) → RepL K F (zs.map (·.1)) (zs.map (·.2.1))
  | [], _ => .nil
  | z :: zs, h => .cons (h z (by simp)) (repL_of fun y hy => h y (by simp [hy]))
theorem sort_rep {K : KH} {F : Hp} {ws : List W} {vs : List V} (r : RepL K F ws vs) (ds : List PyData) : RepL K F (sortW ws ds) (((vs.zip ds).mergeSort (PySem.W.dataLe false fun q : V × PyData => q.2)).map (·.1)) := by
  obtain ⟨zs, h1, h2, h3⟩ := repL_zip r ds
  unfold sortW
  rw [h1, h2]
  have e1 : (zs.map (fun z => (z.1, z.2.2))).mergeSort dLe = (zs.mergeSort (PySem.W.dataLe false fun z : W × V × PyData => z.2.2)).map (fun z => (z.1, z.2.2)) := (List.map_mergeSort (f := fun z : W × V × PyData => (z.1, z.2.2)) fun _ _ _ _ => rfl).symm
  have e2 : (zs.map (fun z => (z.2.1, z.2.2))).mergeSort (PySem.W.dataLe false fun q : V × PyData => q.2) = (zs.mergeSort (PySem.W.dataLe false fun z : W × V × PyData => z.2.2)).map (fun z => (z.2.1, z.2.2)) := (List.map_mergeSort (f := fun z : W × V × PyData => (z.2.1, z.2.2)) fun _ _ _ _ => rfl).symm
  rw [e1, e2, List.map_map, List.map_map]
  exact repL_of fun z hz => h3 z ((List.mergeSort_perm _ _).mem_iff.mp hz)
theorem prK_v {K : KH} {S : Sto} {H : Hp} : ∀ {ws : List W} {kvs : List (Key × W)} {vs : List V}, prK ws = some kvs → RepL K (fz S H) ws vs → ∃ ps kv', vs = ps.map V.ref ∧ PrsK H ps kv' ∧ KVR K (fz S H) kvs kv'
  | [], _, _, h, .nil => by cases h; exact ⟨[], [], rfl, .nil, .nil⟩
  | w :: ws, kvs, _, h, .cons a b => by
    unfold prK at h
    split at h
    · rename_i e; cases e
    · rename_i k v us e
      cases e
      cases a with
      | tup nk ht rr =>
        obtain _ | ⟨rk, _ | ⟨rv, _ | _⟩⟩ := rr
        cases ek : keyW k with
        | none => rw [ek] at h; cases h
        | some k' =>
          rw [ek, Option.bind_some] at h
          cases er : prK ws with
          | none => rw [er] at h; cases h
          | some kvs' =>
            rw [er] at h
            cases h
            obtain ⟨ps, kv', e1, e2, e3⟩ := prK_v er b
            have hk := keyW_v ek rk
            subst hk
            exact ⟨_ :: ps, (k', _) :: kv', by rw [e1]; rfl, .cons (fz_sub _ _ ht) e2, .cons ⟨rfl, rv⟩ e3⟩
    · cases h
theorem prT_v {K : KH} {S : Sto} {H : Hp} : ∀ {ws : List W} {kvs : List (List Key × W)} {vs : List V}, prT ws = some kvs → RepL K (fz S H) ws vs → ∃ ps kv', vs = ps.map V.ref ∧ PrsT H ps kv' ∧ KVR K (fz S H) kvs kv'
  | [], _, _, h, .nil => by cases h; exact ⟨[], [], rfl, .nil, .nil⟩
  | w :: ws, kvs, _, h, .cons a b => by
    unfold prT at h
    split at h
    · rename_i e; cases e
    · rename_i ks v us e
      cases e
      cases a with
      | tup nk ht rr =>
        obtain _ | ⟨rk, _ | ⟨rv, _ | _⟩⟩ := rr
        cases rk with
        | tup nk2 ht2 rr2 =>
          cases ek : keysW ks with
          | none => rw [ek] at h; cases h
          | some k' =>
            rw [ek, Option.bind_some] at h
            cases er : prT ws with
            | none => rw [er] at h; cases h
            | some kvs' =>
              rw [er] at h
              cases h
              obtain ⟨ps, kv', e1, e2, e3⟩ := prT_v er b
              have hk := keysW_v ek rr2
              subst hk
              exact ⟨_ :: ps, (k', _) :: kv', by rw [e1]; rfl, .cons ⟨_, fz_sub _ _ ht, fz_sub _ _ ht2⟩ e2, .cons ⟨rfl, rv⟩ e3⟩
    · cases h
theorem kvr_puts {κ : Type} [DecidableEq κ] {K : KH} {F : Hp} : ∀ {more : List (κ × W)} {more' : List (κ × V)}, KVR K F more more' → ∀ {acc : List (κ × W)} {acc' : List (κ × V)}, KVR K F acc acc' → KVR K F (putsW acc more) (putsV acc' more') := by
  intro more more' r
  induction r with
  | nil => intro acc acc' q; exact q
  | cons h t ih =>
    intro acc acc' q
    obtain ⟨h1, h2⟩ := h
    rename_i p p' _ _
    have e2 : putK acc' p.1 p'.2 = putK acc' p'.1 p'.2 := by rw [h1]
    have e' : KVR K F (setK acc p.1 p.2) (putK acc' p.1 p'.2) := kvr_put q h2
    rw [e2] at e'
    exact ih e'
theorem kvr_keys {K : KH} {F : Hp} : ∀ {kvs : List (Key × W)} {kv' : List (Key × V)}, KVR K F kvs kv' → RepL K F (kvs.map fun kv => wKey kv.1) (kv'.map fun kv => kV kv.1)
  | _, _, .nil => .nil
  | _, _, .cons (a := p) (b := q) h t => by
    refine .cons ?_ (kvr_keys t)
    have e : ∀ k : Key, Rep K F (wKey k) (kV k) := fun k => by
      cases k with
      | inl i => exact .int i
      | inr x => exact .str x
    have e2 := e p.1
    show Rep K F (wKey p.1) (kV q.1)
    rw [← h.1]
    exact e2
theorem Kv.newCell {C : Ctx} {ρ : Env} {σ : L2.St} {S : Sto} {H : Hp} {Q : WK} {Q' : VK} {ob : Ob} {o : HO} (k : Kv C ρ σ S H Q Q') (s : Sim C.K ρ σ S H) (r : ∀ p, ObR C.K (fz S H) H p ob o) (q : ∀ p, S p = none → Q (.ref p) (sup S p ob)) :
    ∀ p, H p = none → Q' (.ref p) (upd H p o) := fun p hp => by
  have e := same_newc (ob := ob) (o := o) s.sto hp
  exact k _ _ _ _ (s.to e (s.sto.newc hp (r p))) e (.ref p) (q p (s.sto.free hp))
theorem blts {C : Ctx} {live : Bool} (b : Blt) {ws : List W} {vs : List V} {ρ : Env} {σ : L2.St} {S : Sto} {H : Hp} {Q : WK} {Q' : VK} (s : Sim C.K ρ σ S H) (r : RepL C.K (fz S H) ws vs)
    (g : bltW live b ws S Q) (k : Kv C ρ σ S H Q Q') : rBlt C.K.K b vs H Q' := by
  unfold bltW at g
  split at g
  · obtain _ | ⟨r1, _ | _⟩ := r
    cases r1
    exact .inl ⟨_, _, rfl, ⟨g.1, rfl⟩, k.give s (.int _) g.2⟩
  · obtain _ | ⟨r1, _ | _⟩ := r
    rcases g with ⟨us, hu, q⟩ | ⟨a, kvs, rfl, hk, q⟩ | ⟨a, kvs, rfl, hk, q⟩
    · obtain ⟨a, zs, rfl, ha, ra⟩ := rdQ_sq s.sto r1 hu
      refine .inl ⟨_, us.length, rfl, ?_, k.give s (.int _) q⟩
      rcases ha with ha | ha
      · exact .inl ⟨zs, ha, ra.length⟩
      · exact .inr ⟨zs, ha, ra.length⟩
    · cases r1
      obtain ⟨vs, h1, h2⟩ := cell_obK s.sto hk
      exact .inr (.inl ⟨a, vs, rfl, h1, by rw [← kvr_len h2]; exact k.give s (.int _) q⟩)
    · cases r1
      obtain ⟨vs, h1, h2⟩ := cell_obT s.sto hk
      exact .inr (.inr ⟨a, vs, rfl, h1, by rw [← kvr_len h2]; exact k.give s (.int _) q⟩)
  · obtain _ | ⟨r1, _ | _⟩ := r
    cases r1
    exact ⟨_, rfl, k.give s (.int _) g⟩
  · obtain _ | ⟨r1, _ | ⟨r2, _ | _⟩⟩ := r
    cases r1; cases r2
    exact ⟨_, _, rfl, k.give s (.int _) g⟩
  · obtain _ | ⟨r1, _ | ⟨r2, _ | ⟨r3, _ | ⟨r4, _ | _⟩⟩⟩⟩ := r
    cases r1; cases r2; cases r3; cases r4
    exact ⟨_, _, _, _, rfl, fun m hm hy => k.give s (.int _) (g m hm hy)⟩
  · obtain _ | ⟨r1, _ | ⟨r2, _ | _⟩⟩ := r
    cases r1; cases r2
    exact ⟨_, _, rfl, k.give s (.int _) g⟩
  · obtain _ | ⟨r1, _ | _⟩ := r
    obtain ⟨us, ns, hu, hn, h0, q⟩ := g
    obtain ⟨a, zs, rfl, ha, ra⟩ := rdL_sq s.sto r1 hu
    obtain rfl := intsW_v hn ra
    exact ⟨a, ns, rfl, ha.sq, h0, fun m hm hl => k.give s (.int _) (q m hm hl)⟩
  · obtain _ | ⟨r1, _ | _⟩ := r
    obtain ⟨us, ns, hu, hn, h0, q⟩ := g
    obtain ⟨a, zs, rfl, ha, ra⟩ := rdL_sq s.sto r1 hu
    obtain rfl := intsW_v hn ra
    exact ⟨a, ns, rfl, ha.sq, h0, fun m hm hl => k.give s (.int _) (q m hm hl)⟩
  · obtain _ | ⟨r1, _ | _⟩ := r
    obtain ⟨us, d, ds, hu, hv, al, sh, q⟩ := g
    obtain ⟨a, zs, rfl, ha, ra⟩ := rdL_sq s.sto r1 hu
    refine ⟨a, zs, d, ds, rfl, ha.sq, hv.dp s.sto ra, al, sh, fun i x hx hd => ?_⟩
    obtain ⟨w, hw, rw'⟩ := ra.get' hx
    exact k.give s rw' (q i w hw hd)
  · obtain _ | ⟨r1, _ | _⟩ := r
    obtain ⟨us, ns, hu, hn, q⟩ := g
    obtain ⟨a, zs, rfl, ha, ra⟩ := rdL_sq s.sto r1 hu
    obtain rfl := intsW_v hn ra
    exact ⟨a, ns, rfl, ha.sq, k.give s (.int _) q⟩
  · obtain _ | ⟨r1, _ | _⟩ := r
    obtain ⟨us, ns, hu, hn, q⟩ := g
    obtain ⟨a, zs, rfl, ha, ra⟩ := rdL_sq s.sto r1 hu
    obtain rfl := blsW_v hn ra
    exact ⟨a, ns, rfl, ha.sq, k.give s (.bl _) q⟩
  · obtain _ | ⟨r1, _ | _⟩ := r
    obtain ⟨us, ns, hu, hn, q⟩ := g
    obtain ⟨a, zs, rfl, ha, ra⟩ := rdL_sq s.sto r1 hu
    obtain rfl := blsW_v hn ra
    exact ⟨a, ns, rfl, ha.sq, k.give s (.bl _) q⟩
  · obtain _ | ⟨r1, _ | _⟩ := r
    cases r1
    exact .inl ⟨_, rfl, k.give s (.int _) g⟩
  · obtain _ | ⟨r1, _ | _⟩ := r
    cases r1
    exact .inr ⟨_, rfl, k.give s (.int _) g⟩
  · obtain _ | ⟨r1, _ | _⟩ := r
    cases r1
    exact ⟨_, rfl, g.1, k.give s (.str _) g.2⟩
  · obtain _ | ⟨r1, _ | _⟩ := r
    obtain ⟨us, hu, q⟩ := g
    obtain ⟨a, zs, rfl, ha, ra⟩ := rdQ_sq s.sto r1 hu
    exact ⟨a, zs, rfl, ha, k.newLst s ra q⟩
  · obtain _ | ⟨r1, _ | _⟩ := r
    obtain ⟨us, hu, q⟩ := g
    rename_i x v
    by_cases hx : x = .tup us
    · subst hx
      obtain ⟨a, zs, rfl, ha, ra⟩ := tup_sq r1
      exact ⟨a, zs, rfl, .inr ⟨.of ha, k.give s r1 q⟩⟩
    · have hl : rdL S x = some us := by
        cases x with
        | tup ws => exact absurd (congrArg W.tup (Option.some.inj hu)) hx
        | _ => exact hu
      obtain ⟨a, zs, rfl, ha, ra⟩ := rdL_sq s.sto r1 hl
      exact ⟨a, zs, rfl, .inl ⟨ha.sq, k.newTup s ra q⟩⟩
  · obtain _ | ⟨r1, _ | _⟩ := r
    obtain ⟨us, ds, hu, hv, al, so, sh, q⟩ := g
    obtain ⟨a, zs, rfl, ha, ra⟩ := rdL_sq s.sto r1 hu
    exact ⟨a, zs, ds, rfl, ha.sq, hv.dp s.sto ra, al, so, sh, k.newLst s (sort_rep ra ds) q⟩
  · obtain _ | ⟨r1, _ | _⟩ := r
    obtain ⟨us, kvs, hu, hp, q⟩ := g
    obtain ⟨a, zs, rfl, ha, ra⟩ := rdL_sq s.sto r1 hu
    obtain ⟨ps, kv', rfl, e2, e3⟩ := prK_v hp ra
    exact ⟨a, ps, kv', rfl, ha.sq, e2, k.newCell s (ob := .dk (putsW [] kvs)) (fun _ => by exact ⟨_, rfl, kvr_puts e3 .nil⟩) q⟩
  · obtain _ | ⟨r1, _ | _⟩ := r
    obtain ⟨us, kvs, hu, hp, q⟩ := g
    obtain ⟨a, zs, rfl, ha, ra⟩ := rdL_sq s.sto r1 hu
    obtain ⟨ps, kv', rfl, e2, e3⟩ := prT_v hp ra
    exact ⟨a, ps, kv', rfl, ha.sq, e2, k.newCell s (ob := .dt (putsW [] kvs)) (fun _ => by exact ⟨_, rfl, kvr_puts e3 .nil⟩) q⟩
  · obtain _ | ⟨r1, _ | _⟩ := r
    obtain ⟨a, kvs, rfl, hk, q⟩ := g
    cases r1
    obtain ⟨u, hu, vs, rfl, rv⟩ := s.sto.at' _ _ hk
    exact ⟨a, vs, rfl, hu, k.newLst s (kvr_keys rv) q⟩
  · exact g.elim

/-! ### methods -/
theorem strsW_v {K : KH} {F : Hp} : ∀ {ws : List W} {ns : List Str} {vs : List V}, strsW ws = some ns → RepL K F ws vs → vs = ns.map V.str
  | [], _, _, h, .nil => by cases h; rfl
  | w :: ws, ns, _, h, .cons a b => by
    cases w with
    | str i =>
      cases a
      unfold strsW at h
      cases e : strsW ws with
      | none => rw [e] at h; cases h
      | some ms =>
        rw [e] at h
        cases h
        rw [strsW_v e b]
        rfl
    | _ => cases h
def rExtendR (K : PySem.W.Frag) : V → List V → Hp → VK → Prop := fun x vs H Q => ∃ l b xs zs, x = .ref l ∧ vs = [.ref b] ∧ H l = some (.lst xs) ∧ SqR K H b zs ∧ xs.length + zs.length ≤ sizeLine ∧ Q .non (upd H l (.lst (xs ++ zs)))
theorem mt_extendR {X : Cx} : MtM X "list.extend" (rExtendR X.K) := by
  intro pins s σ H x vs v us Q I rx rv h
  obtain ⟨l, b, xs, zs, rfl, rfl, hH, hB, hz, q⟩ := h
  cases rx
  obtain ⟨u, rfl, ru⟩ := rv.one
  cases ru
  obtain ⟨z, its, n, r, hl, e⟩ := I.lstM hH
  obtain ⟨z2, its2, n2, r2, hl2, e2⟩ := lstR I hB
  have hsz : its.toArray.size + its2.toArray.size ≤ sizeLine := by rw [List.size_toArray, List.size_toArray]; omega
  have hlong : ¬ (!its.toArray.isEmpty && Builtin.List.listTooLong (its.toArray.size + its2.toArray.size)) = true := by
    rw [notLongL hsz, Bool.and_false]
    exact Bool.false_ne_true
  refine call_meets F.slot_list_extend ⟨_, e, rfl⟩ F.entry_list_extend (F.args_list_extend_2 _ _)
    (AutoSeq1.list_extend_list_list_0 l its.toArray n b its2.toArray n2 hlong (by rw [List.size_toArray]; omega) (by omega)) ⟨e, e2, ?_⟩
  refine ⟨.non, _, I.lset (its' := its ++ its2) hH e (by simp) (r.append r2) ?_, rfl, q⟩
  rw [List.length_append]
  omega
/-- l.count(x), items and x without a dict -/
def rCountD (K : PySem.W.Frag) : V → List V → Hp → VK → Prop := fun x vs H Q => ∃ (l : Addr) (y : V) (e : PyData) (es : List PyData), x = V.ref l ∧ vs = [y] ∧ Dp K H (V.ref l) (.list es) ∧ Dp K H y e ∧
  SeqAt.shaped (.list es) = true ∧ SeqAt.shaped e = true ∧ Q (.int ((es.countP fun z => PyData.eqv z e : Nat) : Int)) H
theorem mt_countD {X : Cx} (hu : X.A.units + 65 < cLine) : MtR X "list.count" (rCountD X.K) := by
  intro pins s σ H x vs v us Q I rx rvs h
  obtain ⟨l, y, e, es, rfl, rfl, hl, hy, sl, se, q⟩ := h
  cases rx
  obtain ⟨uy, rfl, ry⟩ := rvs.one
  obtain ⟨bs, r1⟩ := Dp.reads I e y uy hy ry
  have can : PyData.canLayAll0 es = true := SeqAt.canLay_of_shaped sl
  cases hl with
  | lst hs ha =>
    obtain ⟨its, rv, ⟨⟨cls, dd, data, sls⟩, n, ho, hc, hdn, hdt⟩, _⟩ := I.list hs
    simp only at hc hdt
    subst hc hdt
    obtain ⟨as, r2⟩ := Dp.readsAll I es _ its ha rv
    have same : its.map (SeqAt.readOf s.heap) = es := SeqAt.readsAll_map es its as can r2
    have num : its.toArray.toList.countP (fun u => PyData.eqv (SeqAt.readOf s.heap u) e) = es.countP fun z => PyData.eqv z e := by
      rw [← same, List.countP_map]; rfl
    refine call_meets F.slot_list_count ⟨_, ho, rfl⟩ F.entry_list_count (F.args_list_count_2 _ _) (SeqAt.list_countAt l its.toArray n dd sls uy fun u => PyData.eqv (SeqAt.readOf s.heap u) e)
      ⟨ho, SeqAt.items_eqAt (vs := its.toArray) (show ReadsAll s.heap its.toArray.toList es as from r2) r1 can (SeqAt.canLay_of_shaped se) (room_in_shaped se hu), ?_⟩
    exact ⟨.int ((es.countP fun z => PyData.eqv z e : Nat) : Int), H, I.tok _, ⟨_, by rw [num]⟩, q⟩
def Mth.nm : Mth → Str
  | .append => "append" | .pop => "pop" | .popAt => "pop" | .extend => "extend" | .clear => "clear" | .join => "join" | .index => "index" | .count => "count"
def Mth.id : Mth → String
  | .append => "list.append" | .pop => "list.pop" | .popAt => "list.pop" | .extend => "list.extend" | .clear => "list.clear" | .join => "str.join" | .index => "list.index" | .count => "list.count"
theorem Mth.plain : ∀ m : Mth, PlainAttrs m.T
  | .append | .pop | .popAt | .extend | .clear | .index | .count => PySem.F.plainAttrs_list
  | .join => PySem.F.plainAttrs_str
theorem Mth.slot : ∀ m : Mth, Slot m.T m.nm m.id
  | .append => PySem.F.slot_list_append | .pop => PySem.F.slot_list_pop | .popAt => PySem.F.slot_list_pop | .extend => PySem.F.slot_list_extend | .clear => PySem.F.slot_list_clear
  | .join => PySem.F.slot_str_join | .index => PySem.F.slot_list_index | .count => PySem.F.slot_list_count
theorem Mth.type : ∀ m : Mth, typeOf (.builtin m.id) = pure (.type "method_descriptor")
  | .append => PySem.F.type_list_append | .pop => PySem.F.type_list_pop | .popAt => PySem.F.type_list_pop | .extend => PySem.F.type_list_extend | .clear => PySem.F.type_list_clear
  | .join => PySem.F.type_str_join | .index => PySem.F.type_list_index | .count => PySem.F.type_list_count
def rMth (K : PySem.W.Frag) : Mth → V → List V → Hp → VK → Prop
  | .append => rAppend
  | .pop => rPop
  | .popAt => rPopAt
  | .extend => rExtendR K
  | .clear => rClear
  | .index => rIndexD K
  | .count => rCountD K
  | .join => fun x xs H Q => ∃ a p, ∃ ys : List Str, x = .str a ∧ xs = [.ref p] ∧ (SqL K H p (ys.map V.str) ∨ SqT K H p (ys.map V.str)) ∧
      (ys.map Str.length).sum + ys.length * a.length ≤ 16777216 ∧ Q (.str (Txt.join a ys)) H
theorem mt_all {X : Cx} (hu : X.A.units + 65 < cLine) : ∀ m : Mth, MtR X m.id (rMth X.K m)
  | .append => mt_append
  | .pop => mt_pop
  | .popAt => mt_popAt
  | .extend => mt_extendR
  | .clear => mt_clear
  | .index => mt_indexD hu
  | .count => mt_countD hu
  | .join => mt_join
theorem rcvs {C : Ctx} {m : Mth} {x : W} {vx : V} {S : Sto} {H : Hp} (s : StoOk C.K S H) (rx : Rep C.K (fz S H) x vx) (g : rcvW m x S) : tyV C.K.K m.T vx H := by
  unfold rcvW at g
  split at g
  · rename_i h
    cases rx
    exact h
  · rename_i h
    cases rx
    obtain ⟨ws, e⟩ := g
    obtain ⟨u, hu, vs, rfl, r⟩ := s.at' _ _ e
    exact .inl ⟨h, vs, .of hu⟩
  · rename_i ws h
    obtain ⟨a, vs, rfl, ha, _⟩ := rdL_sq s rx (rfl : rdL S (.lst ws) = some ws)
    exact .inl ⟨h, vs, ha.sq⟩
  · exact g.elim
theorem mths {C : Ctx} (m : Mth) {x : W} {vx : V} {ws : List W} {vs : List V} {ρ : Env} {σ : L2.St} {S : Sto} {H : Hp} {Q : WK} {Q' : VK} (s : Sim C.K ρ σ S H) (rx : Rep C.K (fz S H) x vx) (r : RepL C.K (fz S H) ws vs)
    (g : mthW m x ws S Q) (k : Kv C ρ σ S H Q Q') : rMth C.K.K m vx vs H Q' := by
  have fin : ∀ {a : Addr} {ob ob' : Ob} {o : HO} {w : W} {v : V}, S a = some ob → ObR C.K (fz S H) H a ob' o → Rep C.K (fz S H) w v → Q w (sup S a ob') → Q' v (upd H a o) := fun {a ob ob' o w v} h r rv q => by
    have e : Same (fz S H) (fz (sup S a ob') (upd H a o)) := by
      rw [fz_put h]
      exact Same.refl _
    exact k _ _ _ _ (s.to e (s.sto.put h r)) e (rv.mono e) q
  unfold mthW at g
  split at g
  · obtain _ | ⟨r1, _ | _⟩ := r
    cases rx
    obtain ⟨ws, hs, hl, q⟩ := g
    obtain ⟨u, hu, us, rfl, ru⟩ := s.sto.at' _ _ hs
    exact ⟨_, us, _, rfl, rfl, hu, by rw [← ru.length]; exact hl, fin hs (by exact ⟨_, rfl, ru.append (.cons r1 .nil)⟩) .non q⟩
  · cases r
    cases rx
    obtain ⟨ws, w, hs, hl, q⟩ := g
    obtain ⟨u, hu, us, rfl, ru⟩ := s.sto.at' _ _ hs
    obtain ⟨v, hv, rv⟩ := ru.get hl
    exact ⟨_, us, v, rfl, rfl, hu, by rw [← ru.length]; exact hv, fin hs (by exact ⟨_, rfl, ru.dropLast⟩) rv q⟩
  · obtain _ | ⟨r1, _ | _⟩ := r
    cases r1
    cases rx
    obtain ⟨ws, j, w, hs, h1, h2, hj, hl, q⟩ := g
    obtain ⟨u, hu, us, rfl, ru⟩ := s.sto.at' _ _ hs
    obtain ⟨v, hv, rv⟩ := ru.get hl
    exact ⟨_, us, _, j, v, rfl, rfl, hu, h1, h2, by rw [← ru.length]; exact hj, hv, fin hs (by exact ⟨_, rfl, ru.eraseIdx j⟩) rv q⟩
  · cases r
    cases rx
    obtain ⟨ws, hs, q⟩ := g
    obtain ⟨u, hu, us, rfl, ru⟩ := s.sto.at' _ _ hs
    exact ⟨_, us, rfl, rfl, hu, fin hs (by exact ⟨_, rfl, .nil⟩) .non q⟩
  · obtain _ | ⟨r1, _ | _⟩ := r
    obtain ⟨us, d, ds, j, z, hu, hv, hd, sl, sd, hz, hzj, hno, q⟩ := g
    obtain ⟨a, zs, rfl, ha, ra⟩ := rdL_sq s.sto rx hu
    exact ⟨a, _, d, ds, j, z, rfl, rfl, .lst ha.sq (hv.dp s.sto ra), hd.dp s.sto r1, sl, sd, hz, hzj, hno, k.give s (.int _) q⟩
  · obtain _ | ⟨r1, _ | _⟩ := r
    obtain ⟨us, d, ds, hu, hv, hd, sl, sd, q⟩ := g
    obtain ⟨a, zs, rfl, ha, ra⟩ := rdL_sq s.sto rx hu
    exact ⟨a, _, d, ds, rfl, rfl, .lst ha.sq (hv.dp s.sto ra), hd.dp s.sto r1, sl, sd, k.give s (.int _) q⟩
  · obtain _ | ⟨r1, _ | _⟩ := r
    cases rx
    obtain ⟨ws, zs, hs, hz, hl, q⟩ := g
    obtain ⟨u, hu, us, rfl, ru⟩ := s.sto.at' _ _ hs
    obtain ⟨b, ts, rfl, hb, rb⟩ := rdL_sq s.sto r1 hz
    exact ⟨_, b, us, ts, rfl, rfl, hu, hb, by rw [← ru.length, ← rb.length]; exact hl, fin hs (by exact ⟨_, rfl, ru.append rb⟩) .non q⟩
  · obtain _ | ⟨r1, _ | _⟩ := r
    cases rx
    obtain ⟨ws, ss, hw, hss, hl, q⟩ := g
    obtain ⟨b, ts, rfl, hb, rb⟩ := rdQ_sq s.sto r1 hw
    obtain rfl := strsW_v hss rb
    exact ⟨_, b, ss, rfl, rfl, hb, hl, k.give s (.str _) q⟩
  · exact g.elim
end MP

set_option Elab.async false
set_option linter.all false
set_option maxRecDepth 100000
set_option maxHeartbeats 4000000
/-! MP4d: list(zip(a, b)) as an expression. -/
namespace MP
open PySem PySem.Spec PySem.Calls PyProof.Rows L2

/-- pairs laid at their addresses -/
def putP : Hp → List Addr → List (V × V) → Hp
  | H, t :: ts, p :: ps => putP (upd H t (.tup [p.1, p.2])) ts ps
  | H, _, _ => H
theorem putP_out {b : Addr} : ∀ (ts : List Addr) (ps : List (V × V)) (H : Hp), b ∉ ts → putP H ts ps b = H b
  | [], _, _, _ => rfl
  | _ :: _, [], _, _ => rfl
  | t :: ts, p :: ps, H, h => by
    have h1 : b ≠ t := fun e => h (by rw [e]; exact List.mem_cons_self)
    have h2 : b ∉ ts := fun e => h (List.mem_cons_of_mem _ e)
    have e : putP H (t :: ts) (p :: ps) b = putP (upd H t (.tup [p.1, p.2])) ts ps b := rfl
    rw [e, putP_out ts ps _ h2, upd_ne h1]
theorem putP_in : ∀ (ts : List Addr) (ps : List (V × V)) (H : Hp) (j : Nat) (t : Addr) (p : V × V), ts.Nodup → ts[j]? = some t → ps[j]? = some p → putP H ts ps t = some (.tup [p.1, p.2])
  | [], _, _, j, _, _, _, h, _ => by simp at h
  | _ :: _, [], _, j, _, _, _, _, h => by simp at h
  | t0 :: ts, p0 :: ps, H, 0, t, p, nd, h1, h2 => by
    cases h1
    cases h2
    have e : putP H (t0 :: ts) (p0 :: ps) t0 = putP (upd H t0 (.tup [p0.1, p0.2])) ts ps t0 := rfl
    rw [e, putP_out ts ps _ (List.nodup_cons.mp nd).1, upd_same]
  | t0 :: ts, p0 :: ps, H, j + 1, t, p, nd, h1, h2 => putP_in ts ps _ j t p (List.nodup_cons.mp nd).2 (by simpa using h1) (by simpa using h2)
def tLZip (K : PySem.W.Frag) (ta : TA) : TE := fun σ H Q => ta σ H fun vs H1 => ∃ a b xs ys, vs = [.ref a, .ref b] ∧ SqL K H1 a xs ∧ SqL K H1 b ys ∧
  ∀ ts p, ts.length = (xs.zip ys).length → ts.Nodup → (∀ t ∈ ts, H1 t = none) → H1 p = none → p ∉ ts → Q (.ref p) (upd (putP H1 ts (xs.zip ys)) p (.lst (ts.map V.ref)))
section
variable {X : Cx}
theorem pe_listZip {e e2 : Expr} {ta : TA} {p p2 pos pos2 : Pos} (hc : X.calm = true) (hg : Gl X "list") (hm : X.mg "list" = none) (hg2 : Gl X "zip") (hm2 : X.mg "zip" = none) (ha : PA X [e, e2] ta)
    (na : starEach [e, e2] X.env = (false, eval e X.env) :: starEach [e2] X.env) (npl : (backTo pos2 (starEach [e2] X.env)).any (·.1) = false) :
    PE X (.Call (.Name "list" p) [.Call (.Name "zip" p2) [e, e2] [] pos2] [] pos) (tLZip X.K ta) := by
  refine ⟨fun pins s σ H Q I h => ?_⟩
  refine Call_ (ld_blt I hg hm boot_list (PyProof.Rows.callWith_type1 (args_cons (Call_ (ld_blt I hg2 hm2 PyProof.Rows.boot_zip (PyProof.Rows.callWith_type1 (thn (ha.run pos2 pins s σ H _ I h) fun us s1 ⟨vs, H1, I1, r1, q1⟩ => ?_) na npl))) rfl) rfl rfl))
  obtain ⟨a, b, xs, ys, rfl, hx, hy, q⟩ := q1
  cases r1 with
  | cons r rr =>
    cases rr with
    | cons r' rr =>
      cases rr
      cases r
      cases r'
      obtain ⟨ix, rx, px, lx⟩ := I1.list hx
      obtain ⟨iy, ry, py, ly⟩ := I1.list hy
      have la : a < s1.heap.objs.size := px.lt
      have lb : b < s1.heap.objs.size := py.lt
      refine call_zip_2 px.isList py.isList fun h1 hz hTI hTO f1 f2 hsz hk => ?_
      refine args_nil ?_
      have N5 : h1.objs.size = s1.heap.objs.size + 5 := hsz
      have nx : ix.toArray.size = xs.length := by rw [List.size_toArray, rx.length]
      have ny : iy.toArray.size = ys.length := by rw [List.size_toArray, ry.length]
      have hmin : min ix.toArray.size iy.toArray.size = (xs.zip ys).length := by rw [nx, ny, List.length_zip]
      refine list_zip (s := { s1 with heap := h1 }) (a := ⟨s1.heap.objs.size + 4, s1.heap.objs.size + 2, s1.heap.objs.size + 3, s1.heap.objs.size, s1.heap.objs.size + 1, a, b⟩) (xs := ix.toArray) (ys := iy.toArray) (I1.ok.hd hc)
        (PySem.W.ktu_apart s1.heap.objs.size a b la lb) ⟨hTI, f1, f2, px.isList.at fun o z => hk _ o z, py.isList.at fun o z => hk _ o z, ⟨_, _, hTO⟩, .inl hz⟩ hz (by rw [nx]; exact Nat.le_trans (Nat.min_le_left _ _) lx) fun h2 tk acc c ts kp hS hacc hlen g => ?_
      have low : ∀ {d : Addr} {o : Obj}, s1.heap.get? d = some o → h2.get? d = some o := fun {d o} z => by
        have hd := Heap.lt_size z
        exact kp d o ⟨Nat.ne_of_lt (Nat.lt_of_lt_of_le hd (Nat.le_add_right _ _)), Nat.ne_of_lt (Nat.lt_of_lt_of_le hd (Nat.le_add_right _ _)), Nat.ne_of_lt hd, Nat.ne_of_lt (Nat.lt_of_lt_of_le hd (Nat.le_add_right _ _))⟩ (hk d o z)
      have pN : s1.heap.objs.size ≤ h1.objs.size := by rw [N5]; exact Nat.le_add_right _ _
      have tN : ∀ t ∈ ts, s1.heap.objs.size ≤ t := fun t ht => Nat.le_trans pN (Nat.le_of_lt (g.over t ht))
      have nd : ts.Nodup := List.Pairwise.imp (fun {u v} (z : u < v) => Nat.ne_of_lt z) g.up
      have tlen : ts.length = (xs.zip ys).length := by rw [hlen, hmin]
      have pT : h1.objs.size ∉ ts := fun z => Nat.lt_irrefl _ (g.over _ z)
      have newT : ∀ t ∈ ts, H1 t = none := fun t ht => I1.hok.fresh (tN t ht)
      have newS : H1 h1.objs.size = none := I1.hok.fresh pN
      have old : ∀ d, H1 d ≠ none → d ∉ ts ∧ d ≠ h1.objs.size := fun d hd => ⟨fun z => hd (newT d z), fun z => hd (by rw [z]; exact newS)⟩
      have old2 : ∀ d o, s1.heap.get? d = some o → d ∉ ts ∧ d ≠ h1.objs.size := fun d o z => ⟨fun y => absurd (Heap.lt_size z) (Nat.not_lt.mpr (tN d y)), fun y => absurd (Heap.lt_size z) (Nat.not_lt.mpr (by rw [y]; exact pN))⟩
      have H2at : ∀ d, d ∉ ts → d ≠ h1.objs.size → (upd (putP H1 ts (xs.zip ys)) h1.objs.size (.lst (ts.map V.ref))) d = H1 d := fun d z1 z2 => by rw [upd_ne z2, putP_out _ _ _ z1]
      have keepH : ∀ d o, H1 d = some o → (upd (putP H1 ts (xs.zip ys)) h1.objs.size (.lst (ts.map V.ref))) d = some o := fun d o z => by
        obtain ⟨z1, z2⟩ := old d (by rw [z]; simp)
        rw [H2at d z1 z2]
        exact z
      refine ⟨.ref h1.objs.size, _, I1.call' (ch := []) rfl ⟨fun d o z _ _ _ => low z, fun d o z _ _ _ => ⟨o.slots, low z⟩, fun d o z n _ => ?_, fun d o z _ => ⟨o, low z⟩, fun d zs z => keepH d _ z, fun d o u z => keepH d _ z, fun d zs z => ⟨#[], by rw [keepH d _ z]; simp⟩⟩
        (fun d u z => ?_) I1.bare (fun d z => by simp at z), rfl, q ts h1.objs.size tlen nd newT newS pT⟩
      · obtain ⟨z1, z2⟩ := old2 d o z
        rw [H2at d z1 z2]
        exact n
      · by_cases hd : d ∈ ts
        · obtain ⟨j, hj⟩ := List.mem_iff_getElem?.mp hd
          have jl : j < (xs.zip ys).length := by rw [← tlen]; exact (List.getElem?_eq_some_iff.mp hj).1
          have dS : d ≠ h1.objs.size := fun y => pT (y ▸ hd)
          rw [upd_ne dS, putP_in ts _ H1 j d _ nd hj (List.getElem?_eq_getElem jl)] at z
          cases z
          obtain ⟨x, y, e1, e2, e3⟩ := g.is j d hj
          have jx : j < xs.length := by rw [List.length_zip] at jl; omega
          have jy : j < ys.length := by rw [List.length_zip] at jl; omega
          obtain ⟨u1, g1, g2⟩ := rx.get (List.getElem?_eq_getElem jx)
          obtain ⟨u2, g3, g4⟩ := ry.get (List.getElem?_eq_getElem jy)
          have f1' : x = u1 := by
            have : ix[j]? = some x := by simpa using e1
            rw [g1] at this
            exact (Option.some.inj this).symm
          have f2' : y = u2 := by
            have : iy[j]? = some y := by simpa using e2
            rw [g3] at this
            exact (Option.some.inj this).symm
          subst f1' f2'
          have zz : (xs.zip ys)[j] = (xs[j], ys[j]) := List.getElem_zip
          rw [zz]
          exact ⟨by show 2 ≤ sizeLine; rw [sizeLine_eq]; omega, [x, y], .cons g2 (.cons g4 .nil), ⟨_, e3, rfl, _, rfl⟩⟩
        · by_cases hd2 : d = h1.objs.size
          · subst hd2
            rw [upd_same] at z
            cases z
            refine ⟨by rw [List.length_map, tlen, List.length_zip]; omega, acc.toList, c, by rw [hacc]; exact vals_refs ts, ?_⟩
            rw [Array.toArray_toList]
            exact hS
          · rw [H2at d hd hd2] at z
            exact (I1.hok d u z).stay (fun d v _ y => low y) (fun d y => keepH d _ y) fun d zs y => keepH d _ y
end
/-- the pairs, and the list of them, as values -/
theorem zip_new {K : KH} {S : Sto} : ∀ (ts : List Addr) {H : Hp} {ws zs : List W} {us vs : List V}, StoOk K S H → RepL K (fz S H) ws us → RepL K (fz S H) zs vs → ts.length = (us.zip vs).length → ts.Nodup → (∀ t ∈ ts, H t = none) →
    StoOk K S (putP H ts (us.zip vs)) ∧ Same (fz S H) (fz S (putP H ts (us.zip vs))) ∧ RepL K (fz S (putP H ts (us.zip vs))) (zipW ws zs) (ts.map V.ref)
  | [], H, ws, zs, us, vs, k, r1, r2, hl, _, _ => by
    have e : us.zip vs = [] := List.eq_nil_of_length_eq_zero hl.symm
    rw [e]
    refine ⟨k, Same.refl _, ?_⟩
    cases r1 with
    | nil => exact .nil
    | cons a b =>
      cases r2 with
      | nil => exact .nil
      | cons c d => simp at e
  | t :: ts, H, ws, zs, us, vs, k, r1, r2, hl, nd, hn => by
    cases r1 with
    | nil => simp at hl
    | cons a b =>
      cases r2 with
      | nil => simp at hl
      | cons c d =>
        rename_i w ws u us z zs v vs
        have nT : H t = none := hn t List.mem_cons_self
        have s1 := same_new (o := .tup [u, v]) k nT
        obtain ⟨h1, h2, h3⟩ := zip_new ts (H := upd H t (.tup [u, v])) (k.new nT) (b.mono s1) (d.mono s1) (by simpa using hl) (List.nodup_cons.mp nd).2 fun x hx => by
          rw [upd_ne (fun e => (List.nodup_cons.mp nd).1 (by rw [← e]; exact hx))]
          exact hn x (List.mem_cons_of_mem _ hx)
        refine ⟨h1, s1.trans h2, .cons (Rep.mono h2 (.tup (k.nohid nT) (fz_new k nT) (.cons (a.mono s1) (.cons (c.mono s1) .nil)))) h3⟩
end MP

set_option Elab.async false
set_option linter.all false
set_option maxRecDepth 100000
set_option maxHeartbeats 4000000
/-! MP6: what is walked, comprehensions, loops. -/
namespace MP
open PySem PySem.Spec PyProof.Rows L2

/-- a walk of the layer that yields these items as long as src stands -/
structure ItOk (K : KH) (S0 : Sto) (H0 : Hp) (J : It) (src : Sto → Prop) (items : List W) : Prop where
  go : ∀ i S H, StoOk K S H → Same (fz S0 H0) (fz S H) → src S → i < items.length → J.go i H
  stop : ∀ i S H, StoOk K S H → Same (fz S0 H0) (fz S H) → src S → items.length ≤ i → J.stop i H
  yld : ∀ i S H x H', StoOk K S H → Same (fz S0 H0) (fz S H) → src S → i < items.length → J.yld i H x H' → ∃ w, items[i]? = some w ∧ StoOk K S H' ∧ Same (fz S H) (fz S H') ∧ Rep K (fz S H') w x
/-- .. whatever is hidden beside what stands -/
def ItA (c : Ct0) (h : Addr → Bool) (S : Sto) (H : Hp) (J : It) (src : Sto → Prop) (items : List W) : Prop :=
  ∀ h' : Addr → Bool, (∀ b o, fz S H b = some o → h' b = h b) → ItOk ⟨c.K, h'⟩ S H J src items
def tOfI (c : Ct0) (t : Env → Sto → ((Sto → Prop) → List W → Sto → Prop) → XC → Prop) : TI := fun σ H R => ∃ h ρ S Q X, Sim (c.at h).K ρ σ S H ∧ t ρ S Q X ∧
  (∀ src items S' J H', Sim (c.at h).K ρ σ S' H' → Same (fz S H) (fz S' H') → ItA c h S' H' J src items → Q src items S' → R J H') ∧ XCk (c.at h).K (c.E σ) S H X
theorem PI.imp {X : Cx} {tg e : Expr} {t t' : TI} (h : PI X tg e t) (i : ∀ σ H R, t' σ H R → t σ H R) : PI X tg e t' := ⟨fun pins s σ H R I q => h.run pins s σ H R I (i σ H R q)⟩

/-! ### lists, tuples, texts -/
def iSeq (K : PySem.W.Frag) (tl : TE) : TI := fun σ H R => tl σ H fun x H1 => (∃ a, x = .ref a ∧ (((∃ xs, SqL K H1 a xs) ∧ R (Itl K a) H1) ∨ ((∃ xs, SqT K H1 a xs) ∧ R (Itt K a) H1))) ∨ ∃ z, x = .str z ∧ R (Its z) H1
theorem pi_seq {X : Cx} {tg l : Expr} {tl : TE} (hl : PE X l tl) : PI X tg l (iSeq X.K tl) := by
  refine ⟨fun pins s σ H R I h => ?_⟩
  refine thn (hl.run pins s σ H _ I h) fun v s1 ⟨x, H1, I1, r1, q1⟩ => ?_
  rcases q1 with ⟨a, e, ⟨⟨xs, hq⟩, q⟩ | ⟨⟨xs, hq⟩, q⟩⟩ | ⟨z, e, q⟩
  · subst e
    cases r1
    obtain ⟨its, rv, p, hz⟩ := I1.list hq
    refine wpAny_pyIter_list p.isList ?_
    refine ⟨s1.heap.objs.size, [s1.heap.objs.size], _, _, H1, rfl, I1.kept (t' := s1.toks) fun b o e => Heap.get?_push_of_some _ e, turn_list a _, ⟨_, Heap.get?_push_size _ rfl, rfl, rfl⟩, fun b hb => ?_, q⟩
    have e : b = s1.heap.objs.size := by simpa using hb
    subst e
    exact I1.fpOk (Nat.le_refl _) (I1.hok.fresh (Nat.le_refl _))
  · subst e
    cases r1
    obtain ⟨its, rv, p, hz⟩ := I1.tuple hq
    refine wpAny_pyIter_tuple (show s1.heap.IsTuple a its.toArray from p) ?_
    refine ⟨s1.heap.objs.size, [s1.heap.objs.size], _, _, H1, rfl, I1.kept (t' := s1.toks) fun b o e => Heap.get?_push_of_some _ e, turn_tuple a _, ⟨_, Heap.get?_push_size _ rfl, rfl, rfl⟩, fun b hb => ?_, q⟩
    have e : b = s1.heap.objs.size := by simpa using hb
    subst e
    exact I1.fpOk (Nat.le_refl _) (I1.hok.fresh (Nat.le_refl _))
  · subst e
    obtain ⟨t, rfl⟩ := r1
    cases ha : z.cps.all (· < 128)
    · exact wpAny_pyIter_wide ha (pi_one (tk := s1.toks) I1 _ (turn_str _ z t "str_iterator" (.inr rfl)) ⟨_, Heap.get?_push_size _ rfl, rfl, rfl⟩ q)
    · exact wpAny_pyIter_ascii ha (pi_one (tk := s1.toks) I1 _ (turn_str _ z t "str_ascii_iterator" (.inl rfl)) ⟨_, Heap.get?_push_size _ rfl, rfl, rfl⟩ q)
section
variable {K : KH} {S0 : Sto} {H0 : Hp}
theorem itok_list {w : W} {a : Addr} {ws : List W} (r : Rep K (fz S0 H0) w (.ref a)) (e : rdL S0 w = some ws) : ItOk K S0 H0 (Itl K.K a) (fun S => rdL S w = some ws) ws := by
  have at' : ∀ S H, StoOk K S H → Same (fz S0 H0) (fz S H) → rdL S w = some ws → ∃ vs, SqL K.K H a vs ∧ RepL K (fz S H) ws vs := fun S H k m h => by
    obtain ⟨a', vs, e, h1, h2⟩ := rdL_sq k (r.mono m) h
    cases e
    exact ⟨vs, h1.sq, h2⟩
  refine ⟨fun i S H k m h hi => ?_, fun i S H k m h hi => ?_, fun i S H x H' k m h hi hy => ?_⟩
  · obtain ⟨vs, h1, h2⟩ := at' S H k m h
    obtain ⟨v, hv, _⟩ := h2.get (List.getElem?_eq_getElem hi)
    exact ⟨vs, v, h1, hv⟩
  · obtain ⟨vs, h1, h2⟩ := at' S H k m h
    exact ⟨vs, h1, by rw [← h2.length]; exact hi⟩
  · obtain ⟨vs, h1, h2⟩ := at' S H k m h
    obtain ⟨rfl, f⟩ := hy
    obtain ⟨u, hu, ru⟩ := h2.get' (f vs h1)
    exact ⟨u, hu, k, Same.refl _, ru⟩
theorem itok_tup {a : Addr} {ws : List W} {P : Sto → Prop} (r : Rep K (fz S0 H0) (.tup ws) (.ref a)) : ItOk K S0 H0 (Itt K.K a) P ws := by
  have at' : ∀ S H, StoOk K S H → Same (fz S0 H0) (fz S H) → ∃ vs, SqT K.K H a vs ∧ RepL K (fz S H) ws vs := fun S H k m => by
    obtain ⟨a', vs, e, h1, h2⟩ := tup_sq (r.mono m)
    cases e
    exact ⟨vs, .of h1, h2⟩
  refine ⟨fun i S H k m h hi => ?_, fun i S H k m h hi => ?_, fun i S H x H' k m h hi hy => ?_⟩
  · obtain ⟨vs, h1, h2⟩ := at' S H k m
    obtain ⟨v, hv, _⟩ := h2.get (List.getElem?_eq_getElem hi)
    exact ⟨vs, v, h1, hv⟩
  · obtain ⟨vs, h1, h2⟩ := at' S H k m
    exact ⟨vs, h1, by rw [← h2.length]; exact hi⟩
  · obtain ⟨vs, h1, h2⟩ := at' S H k m
    obtain ⟨rfl, f⟩ := hy
    obtain ⟨u, hu, ru⟩ := h2.get' (f vs h1)
    exact ⟨u, hu, k, Same.refl _, ru⟩
theorem itok_str {z : Str} {P : Sto → Prop} : ItOk K S0 H0 (Its z) P (sgnW z) := by
  have hl : (sgnW z).length = z.cps.size := by unfold sgnW; rw [List.length_map, Array.length_toList]
  refine ⟨fun i S H k m h hi => ?_, fun i S H k m h hi => ?_, fun i S H x H' k m h hi hy => ?_⟩
  · rw [hl] at hi; exact hi
  · rw [hl] at hi; exact hi
  · obtain ⟨rfl, c, hc, rfl⟩ := hy
    refine ⟨.str ⟨#[c]⟩, ?_, k, Same.refl _, .str _⟩
    unfold sgnW
    rw [List.getElem?_map, Array.getElem?_toList, hc]
    rfl
theorem itok_range {lo : Int} {n : Nat} {P : Sto → Prop} : ItOk K S0 H0 (Itr lo n) P (rngW lo n) := by
  have hl : (rngW lo n).length = n := by unfold rngW; rw [List.length_map, List.length_range]
  refine ⟨fun i S H k m h hi => ?_, fun i S H k m h hi => ?_, fun i S H x H' k m h hi hy => ?_⟩
  · rw [hl] at hi; exact hi
  · rw [hl] at hi; exact hi
  · obtain ⟨rfl, rfl⟩ := hy
    rw [hl] at hi
    refine ⟨.int (lo + i), ?_, k, Same.refl _, .int _⟩
    unfold rngW
    rw [List.getElem?_map, List.getElem?_range hi]
    rfl
theorem itok_rangeC {lo c : Int} {n : Nat} {P : Sto → Prop} : ItOk K S0 H0 (Itc lo c n) P ((List.range n).map fun (k : Nat) => W.int (lo + k * c)) := by
  have hl : ((List.range n).map fun (k : Nat) => W.int (lo + k * c)).length = n := by rw [List.length_map, List.length_range]
  refine ⟨fun i S H k m h hi => ?_, fun i S H k m h hi => ?_, fun i S H x H' k m h hi hy => ?_⟩
  · rw [hl] at hi; exact hi
  · rw [hl] at hi; exact hi
  · obtain ⟨rfl, rfl⟩ := hy
    rw [hl] at hi
    exact ⟨.int (lo + i * c), by rw [List.getElem?_map, List.getElem?_range hi]; rfl, k, Same.refl _, .int _⟩
theorem enmW_get : ∀ (ws : List W) (n i : Nat) (w : W), ws[i]? = some w → (enmW n ws)[i]? = some (.tup [.int ((n + i : Nat) : Int), w])
  | [], _, _, _, h => by simp at h
  | x :: ws, n, 0, w, h => by
    have : x = w := by simpa using h
    subst this
    rfl
  | x :: ws, n, i + 1, w, h => by
    have e := enmW_get ws (n + 1) i w (by simpa using h)
    have : n + 1 + i = n + (i + 1) := by omega
    rw [this] at e
    exact e
theorem enmW_len : ∀ (ws : List W) (n : Nat), (enmW n ws).length = ws.length
  | [], _ => rfl
  | _ :: ws, n => by show (enmW (n + 1) ws).length + 1 = _; rw [enmW_len ws]; rfl
theorem zipW_len : ∀ (xs ys : List W), (zipW xs ys).length = min xs.length ys.length
  | [], ys => by cases ys <;> simp [zipW]
  | x :: xs, [] => by simp [zipW]
  | x :: xs, y :: ys => by
    show (zipW xs ys).length + 1 = min (xs.length + 1) (ys.length + 1)
    rw [zipW_len xs ys]
    omega
theorem zipW_get : ∀ (xs ys : List W) (i : Nat) (x y : W), xs[i]? = some x → ys[i]? = some y → (zipW xs ys)[i]? = some (.tup [x, y])
  | [], _, _, _, _, h, _ => by simp at h
  | _ :: _, [], _, _, _, _, h => by simp at h
  | x :: xs, y :: ys, 0, a, b, h1, h2 => by
    have e1 : x = a := by simpa using h1
    have e2 : y = b := by simpa using h2
    subst e1; subst e2
    rfl
  | x :: xs, y :: ys, i + 1, a, b, h1, h2 => zipW_get xs ys i a b (by simpa using h1) (by simpa using h2)
theorem itok_enum {w : W} {a : Addr} {ws : List W} (r : Rep K (fz S0 H0) w (.ref a)) (e : rdL S0 w = some ws) : ItOk K S0 H0 (Ite K.K a) (fun S => rdL S w = some ws) (enmW 0 ws) := by
  have at' : ∀ S H, StoOk K S H → Same (fz S0 H0) (fz S H) → rdL S w = some ws → ∃ vs, SqL K.K H a vs ∧ RepL K (fz S H) ws vs := fun S H k m h => by
    obtain ⟨a', vs, e, h1, h2⟩ := rdL_sq k (r.mono m) h
    cases e
    exact ⟨vs, h1.sq, h2⟩
  have hl := enmW_len ws 0
  refine ⟨fun i S H k m h hi => ?_, fun i S H k m h hi => ?_, fun i S H x H' k m h hi hy => ?_⟩
  · rw [hl] at hi
    obtain ⟨vs, h1, h2⟩ := at' S H k m h
    obtain ⟨v, hv, _⟩ := h2.get (List.getElem?_eq_getElem hi)
    exact ⟨vs, v, h1, hv⟩
  · rw [hl] at hi
    obtain ⟨vs, h1, h2⟩ := at' S H k m h
    exact ⟨vs, h1, by rw [← h2.length]; exact hi⟩
  · obtain ⟨vs, h1, h2⟩ := at' S H k m h
    obtain ⟨T, y, rfl, nT, rfl, f⟩ := hy
    obtain ⟨u, hu, ru⟩ := h2.get' (f vs h1)
    have sm := same_new (o := .tup [.int (i : Nat), y]) k nT
    refine ⟨_, enmW_get ws 0 i u hu, k.new nT, sm, .tup (k.nohid nT) (fz_new k nT) (.cons ?_ (.cons (ru.mono sm) .nil))⟩
    rw [Nat.zero_add]
    exact .int _
theorem itok_zip {w w' : W} {a b : Addr} {xs ys : List W} (r : Rep K (fz S0 H0) w (.ref a)) (r' : Rep K (fz S0 H0) w' (.ref b)) :
    ItOk K S0 H0 (Itz K.K a b) (fun S => rdL S w = some xs ∧ rdL S w' = some ys) (zipW xs ys) := by
  have at' : ∀ {w : W} {a : Addr} {xs : List W}, Rep K (fz S0 H0) w (.ref a) → ∀ S H, StoOk K S H → Same (fz S0 H0) (fz S H) → rdL S w = some xs → ∃ vs, SqL K.K H a vs ∧ RepL K (fz S H) xs vs := fun r S H k m h => by
    obtain ⟨a', vs, e, h1, h2⟩ := rdL_sq k (r.mono m) h
    cases e
    exact ⟨vs, h1.sq, h2⟩
  have hl := zipW_len xs ys
  refine ⟨fun i S H k m h hi => ?_, fun i S H k m h hi => ?_, fun i S H x H' k m h hi hy => ?_⟩
  · rw [hl] at hi
    obtain ⟨us, p1, p2⟩ := at' r S H k m h.1
    obtain ⟨vs, q1, q2⟩ := at' r' S H k m h.2
    obtain ⟨u, hu, _⟩ := p2.get (List.getElem?_eq_getElem (show i < xs.length by omega))
    obtain ⟨v, hv, _⟩ := q2.get (List.getElem?_eq_getElem (show i < ys.length by omega))
    exact ⟨us, vs, u, v, p1, q1, hu, hv⟩
  · rw [hl] at hi
    obtain ⟨us, p1, p2⟩ := at' r S H k m h.1
    obtain ⟨vs, q1, q2⟩ := at' r' S H k m h.2
    have e1 := p2.length
    have e2 := q2.length
    exact ⟨us, vs, p1, q1, by omega⟩
  · obtain ⟨us, p1, p2⟩ := at' r S H k m h.1
    obtain ⟨vs, q1, q2⟩ := at' r' S H k m h.2
    obtain ⟨T, y, z, rfl, nT, rfl, f, g⟩ := hy
    obtain ⟨u, hu, ru⟩ := p2.get' (f us p1)
    obtain ⟨v, hv, rv⟩ := q2.get' (g vs q1)
    have sm := same_new (o := .tup [y, z]) k nT
    exact ⟨_, zipW_get xs ys i u v hu hv, k.new nT, sm, .tup (k.nohid nT) (fz_new k nT) (.cons (ru.mono sm) (.cons (rv.mono sm) .nil))⟩
end
theorem imp_seq {c : Ct0} {e : WE} {σ : L2.St} {H : Hp} {R : It → Hp → Prop} (h : tOfI c (fun ρ S Q X => e ρ S (fun x S1 => ∃ ws, rdI S1 x = some ws ∧ Q (srcW x ws) ws S1) X) σ H R) : iSeq c.K (tOf c e) σ H R := by
  obtain ⟨hh, ρ, S, Q, X, s, q, k, kx⟩ := h
  refine ⟨hh, ρ, S, _, X, s, q, fun w S1 v H1 s1 e1 r1 q1 => ?_, kx⟩
  obtain ⟨ws, hw, q1⟩ := q1
  cases w with
  | str z =>
    cases hw
    cases r1
    exact .inr ⟨z, rfl, k _ _ _ _ _ s1 e1 (fun _ _ => itok_str) q1⟩
  | tup us =>
    cases hw
    obtain ⟨a, vs, rfl, ha, ra⟩ := tup_sq r1
    exact .inl ⟨a, rfl, .inr ⟨⟨vs, .of ha⟩, k _ _ _ _ _ s1 e1 (fun h' hh' => itok_tup (r1.agree hh')) q1⟩⟩
  | lst us =>
    have hl : rdL S1 (.lst us) = some ws := hw
    obtain ⟨a, vs, rfl, ha, ra⟩ := rdL_sq s1.sto r1 hl
    exact .inl ⟨a, rfl, .inl ⟨⟨vs, ha.sq⟩, k _ _ _ _ _ s1 e1 (fun h' hh' => itok_list (r1.agree hh') hl) q1⟩⟩
  | ref b =>
    have hl : rdL S1 (.ref b) = some ws := hw
    obtain ⟨a, vs, rfl, ha, ra⟩ := rdL_sq s1.sto r1 hl
    exact .inl ⟨a, rfl, .inl ⟨⟨vs, ha.sq⟩, k _ _ _ _ _ s1 e1 (fun h' hh' => itok_list (r1.agree hh') hl) q1⟩⟩
  | _ => cases hw

/-! ### loops -/
/-- what is wanted behind a statement -/
structure EndsOk (C : Ctx) (ρ : Env) (σ : L2.St) (S : Sto) (H : Hp) (D' : WEnds) (D : Ends) : Prop where
  nx : ∀ ρ' S' σ' H', Sim C.K ρ' σ' S' H' → Same (fz S H) (fz S' H') → D'.nx ρ' S' → D.nx σ' H'
  rt : ∀ w S' v H', StoOk C.K S' H' → Same (fz S H) (fz S' H') → Rep C.K (fz S' H') w v → D'.rt w S' → D.rt v H'
  bk : ∀ ρ' S' σ' H', Sim C.K ρ' σ' S' H' → Same (fz S H) (fz S' H') → D'.bk ρ' S' → D.bk σ' H'
  ct : ∀ ρ' S' σ' H', Sim C.K ρ' σ' S' H' → Same (fz S H) (fz S' H') → D'.ct ρ' S' → D.ct σ' H'
  xc : ∀ σ', XCk C.K (C.E σ') S H D'.xc
def tOfS (c : Ct0) (w : WS) : TS := fun D σ H => ∃ h ρ S D', Sim (c.at h).K ρ σ S H ∧ w ρ S D' ∧ EndsOk (c.at h) ρ σ S H D' D
theorem EndsOk.to {C : Ctx} {ρ ρ1 : Env} {σ σ1 : L2.St} {S S1 : Sto} {H H1 : Hp} {D' : WEnds} {D : Ends} (h : EndsOk C ρ σ S H D' D) (e : Same (fz S H) (fz S1 H1)) : EndsOk C ρ1 σ1 S1 H1 D' D :=
  ⟨fun a b c d s q => h.nx a b c d s (e.trans q), fun a b c d s q => h.rt a b c d s (e.trans q), fun a b c d s q => h.bk a b c d s (e.trans q), fun a b c d s q => h.ct a b c d s (e.trans q), fun σ' => (h.xc σ').to e⟩
theorem imp_for {c : Ct0} {i : Env → Sto → ((Sto → Prop) → List W → Sto → Prop) → XC → Prop} {g : W → Env → Sto → (Env → Sto → Prop) → Prop} {b : WS} {al : List Nat} {D : Ends} {σ : L2.St} {H : Hp}
    (h : tOfS c (fun ρ S D => i ρ S (fun src items S1 => wpFor src g b items ρ S1 D) D.xc) D σ H) : tFor (tOfI c i) (tOfG c al g) (tOfS c b) D σ H := by
  obtain ⟨hh, ρ, S, D', s, q, k⟩ := h
  refine ⟨hh, ρ, S, _, D'.xc, s, q, fun src items S1 J H1 s1 e1 ita q1 => ?_, k.xc σ⟩
  have it := ita hh fun _ _ _ => rfl
  refine ⟨fun n m σ2 H2 => ∃ ρ2 S2, Sim (c.at hh).K ρ2 σ2 S2 H2 ∧ Same (fz S1 H1) (fz S2 H2) ∧ wpFor src g b (items.drop n) ρ2 S2 D' ∧ m + n = items.length,
    ⟨items.length, ρ, S1, s1, Same.refl _, by rw [List.drop_zero]; exact q1, rfl⟩, fun n m σ2 H2 hW => ?_⟩
  obtain ⟨ρ2, S2, s2, e2, q2, em⟩ := hW
  by_cases hn : n < items.length
  · rw [List.drop_eq_getElem_cons hn] at q2
    obtain ⟨hs, q2⟩ := q2
    refine .inr ⟨it.go n S2 H2 s2.sto e2 hs hn, fun σ3 H3 => ∃ ρ3 S3, Sim (c.at hh).K ρ3 σ3 S3 H3 ∧ Same (fz S1 H1) (fz S3 H3) ∧ wpFor src g b (items.drop (n + 1)) ρ3 S3 D', fun σ3 H3 hN => ?_, fun x H3 hy => ?_⟩
    · obtain ⟨ρ3, S3, s3, e3, q3⟩ := hN
      exact ⟨m - 1, by omega, ρ3, S3, s3, e3, q3, by omega⟩
    · obtain ⟨w, hw, k3, e3, rw'⟩ := it.yld n S2 H2 x H3 s2.sto e2 hs hn hy
      rw [List.getElem?_eq_getElem hn] at hw
      cases hw
      refine ⟨hh, _, ρ2, S2, _, s2.to e3 k3, rw', q2, fun ρ4 S4 σ4 H4 s4 e4 _ q4 => ?_⟩
      refine ⟨hh, ρ4, S4, _, s4, q4, ?_⟩
      have e14 := (e2.trans e3).trans e4
      exact ⟨fun ρ5 S5 σ5 H5 s5 e5 q5 => ⟨ρ5, S5, s5, e14.trans e5, q5⟩, fun w' S5 v5 H5 s5 e5 => k.rt w' S5 v5 H5 s5 ((e1.trans e14).trans e5),
        fun ρ5 S5 σ5 H5 s5 e5 => k.nx ρ5 S5 σ5 H5 s5 ((e1.trans e14).trans e5), fun ρ5 S5 σ5 H5 s5 e5 q5 => ⟨ρ5, S5, s5, e14.trans e5, q5⟩, fun σ' => (k.xc σ').to (e1.trans e14)⟩
  · rw [List.drop_eq_nil_of_le (by omega)] at q2
    exact .inl ⟨it.stop n S2 H2 s2.sto e2 q2.1 (by omega), k.nx _ _ _ _ s2 (e1.trans e2) q2.2⟩
theorem imp_while {c : Ct0} {t : Env → Sto → (Bool → Sto → Prop) → XC → Prop} {b : WS} {D : Ends} {σ : L2.St} {H : Hp}
    (h : tOfS c (fun ρ S D => ∃ I : Nat → Env → Sto → Prop, (∃ m, I m ρ S) ∧ ∀ m ρ S, I m ρ S → t ρ S (fun r S1 =>
      if r = true then b ρ S1 { D with nx := fun ρ2 S2 => ∃ m', m' < m ∧ I m' ρ2 S2, ct := fun ρ2 S2 => ∃ m', m' < m ∧ I m' ρ2 S2, bk := D.nx } else D.nx ρ S1) D.xc) D σ H) : tWhile (tOfT c t) (tOfS c b) D σ H := by
  obtain ⟨hh, ρ, S, D', s, ⟨I, ⟨m0, i0⟩, turn⟩, k⟩ := h
  refine ⟨fun m σ2 H2 => ∃ ρ2 S2, Sim (c.at hh).K ρ2 σ2 S2 H2 ∧ Same (fz S H) (fz S2 H2) ∧ I m ρ2 S2, ⟨m0, ρ, S, s, Same.refl _, i0⟩, fun m σ2 H2 hW => ?_⟩
  obtain ⟨ρ2, S2, s2, e2, i2⟩ := hW
  refine ⟨hh, ρ2, S2, _, D'.xc, s2, turn m ρ2 S2 i2, fun r S3 H3 s3 e3 q3 => ?_, (k.xc σ2).to e2⟩
  have e23 := e2.trans e3
  cases r with
  | true =>
    rw [if_pos rfl] at q3
    refine iteT ⟨fun σ4 H4 => ∃ ρ4 S4 m', m' < m ∧ Sim (c.at hh).K ρ4 σ4 S4 H4 ∧ Same (fz S H) (fz S4 H4) ∧ I m' ρ4 S4, fun σ4 H4 hN => ?_, hh, ρ2, S3, _, s3, q3, ?_⟩
    · obtain ⟨ρ4, S4, m', hm, s4, e4, i4⟩ := hN
      exact ⟨m', hm, ρ4, S4, s4, e4, i4⟩
    · exact ⟨fun ρ5 S5 σ5 H5 s5 e5 ⟨m', hm, i5⟩ => ⟨ρ5, S5, m', hm, s5, e23.trans e5, i5⟩, fun w' S5 v5 H5 s5 e5 => k.rt w' S5 v5 H5 s5 (e23.trans e5),
        fun ρ5 S5 σ5 H5 s5 e5 => k.nx ρ5 S5 σ5 H5 s5 (e23.trans e5), fun ρ5 S5 σ5 H5 s5 e5 ⟨m', hm, i5⟩ => ⟨ρ5, S5, m', hm, s5, e23.trans e5, i5⟩, fun σ' => (k.xc σ').to e23⟩
  | false =>
    rw [if_neg Bool.false_ne_true] at q3
    exact iteF (k.nx _ _ _ _ s3 e23 q3)

/-! ### comprehensions -/
theorem wipe_len (ρ : Env) : ∀ vs : List Nat, (wipeW ρ vs).length = ρ.length
  | [] => rfl
  | v :: vs => by show ((wipeW ρ vs).set v none).length = _; rw [List.length_set, wipe_len ρ vs]
theorem wipe_get {ρ : Env} {i : Nat} {w : W} : ∀ {vs : List Nat}, (wipeW ρ vs)[i]? = some (some w) → ρ[i]? = some (some w) ∧ i ∉ vs
  | [], h => ⟨h, by simp⟩
  | v :: vs, h => by
    have h' : ((wipeW ρ vs).set v none)[i]? = some (some w) := h
    by_cases e : v = i
    · subst e
      by_cases hl : v < (wipeW ρ vs).length
      · rw [List.getElem?_set_self hl] at h'; cases h'
      · rw [List.getElem?_eq_none (by rw [List.length_set]; omega)] at h'; cases h'
    · rw [List.getElem?_set_ne e] at h'
      obtain ⟨h1, h2⟩ := wipe_get h'
      exact ⟨h1, by simp [h2]; exact fun z => e z.symm⟩
theorem wipe_v {σ : L2.St} {i : Nat} : ∀ {vs : List Nat}, i ∉ vs → (wipe σ vs)[i]? = σ[i]?
  | [], _ => rfl
  | v :: vs, h => by
    have h1 : v ≠ i := fun e => h (by simp [e])
    have h2 : i ∉ vs := fun e => h (by simp [e])
    show ((wipe σ vs).set v none)[i]? = σ[i]?
    rw [List.getElem?_set_ne h1, wipe_v h2]
theorem Sim.wipe {K : KH} {ρ : Env} {σ : L2.St} {S : Sto} {H : Hp} (s : Sim K ρ σ S H) (vs : List Nat) : Sim K (wipeW ρ vs) (L2.wipe σ vs) S H := by
  refine ⟨fun i w h => ?_, by rw [wipe_len, wipe_length]; exact s.len, s.sto⟩
  obtain ⟨h1, h2⟩ := wipe_get h
  obtain ⟨v, hv, r⟩ := s.var i w h1
  exact ⟨v, by rw [wipe_v h2]; exact hv, r⟩
/-- a slot that is wiped -/
theorem wipe_at {σ : L2.St} {i : Nat} : ∀ {vs : List Nat}, i ∈ vs → (wipe σ vs)[i]? = if i < σ.length then some none else none
  | v :: vs, h => by
    show ((wipe σ vs).set v none)[i]? = _
    by_cases e : v = i
    · subst e
      by_cases hl : v < σ.length
      · rw [List.getElem?_set_self (by rw [wipe_length]; exact hl), if_pos hl]
      · rw [List.getElem?_eq_none (by rw [List.length_set, wipe_length]; omega), if_neg hl]
    · rw [List.getElem?_set_ne e]
      rcases List.mem_cons.mp h with h | h
      · exact absurd h.symm e
      · exact wipe_at h
theorem wipe_al {σ σ' : L2.St} {vs : List Nat} (h : Al vs (wipe σ vs) σ') : wipe σ' vs = wipe σ vs := by
  apply List.ext_getElem?
  intro i
  by_cases hi : i ∈ vs
  · rw [wipe_at hi, wipe_at hi, h.1, wipe_length]
  · rw [wipe_v hi, h.2 i hi]
theorem imp_lc {c c' : Ct0} {i : Env → Sto → ((Sto → Prop) → List W → Sto → Prop) → XC → Prop} {g : W → Env → Sto → (Env → Sto → Prop) → Prop} {t : Env → Sto → (Bool → Sto → Prop) → Prop} {e : WE} {vs al : List Nat} {live : Bool}
    {σ : L2.St} {H : Hp} {Q' : VK} (hC : c'.K = c.K) (hal : ∀ j ∈ al, j ∈ vs)
    (h : tOf c (fun ρ S Q X => i ρ S (fun src items S1 => wpLc src g t (fun ρ1 S2 Q1 => e ρ1 S2 Q1 XN) (wipeW ρ vs) items [] S1 fun ws S2 => mkL live ws S2 Q) X) σ H Q') :
    tLc (tOfI c i) (tOfG c' al g) (tOfT c' fun ρ S Q _ => t ρ S Q) (tOf c' e) vs σ H Q' := by
  obtain ⟨hh, ρ, S, Q, X, s, q, k, kx⟩ := h
  refine ⟨hh, ρ, S, _, X, s, q, fun src items S1 J H1 s1 e1 ita q1 => ?_, kx⟩
  intro D hD
  obtain ⟨K', E'⟩ := c'
  obtain rfl : K' = c.K := hC
  have s1' := (s1.hide (o := .lst []) hD).wipe vs
  have e1' := same_new (o := .lst []) s1.sto hD
  have hD1 : fz S1 H1 D = none := by
    unfold fz
    split <;> first | rfl | exact hD
  have it := ita ((c.at hh).K.more D).h fun b o e => by
    have hb := ne_of_none e hD1
    unfold KH.more
    simp [hb]
  have nD := s1.sto.nohid hD
  have offD : ∀ {S2 : Sto} {H2 H3 : Hp}, Same (fz S1 H1) (fz S2 H2) → (∀ b, b ≠ D → fz S2 H3 b = fz S2 H2 b) → Same (fz S1 H1) (fz S2 H3) := fun e z b u q => by
    rw [z b (ne_of_none q hD1)]
    exact e b u q
  refine ⟨fun n m H2 => ∃ S2 acc vacc, Sim ((c.at hh).K.more D) (wipeW ρ vs) (wipe σ vs) S2 H2 ∧ Sim ((c.at hh).K.more D) ρ σ S2 H2 ∧ Same (fz S1 H1) (fz S2 H2) ∧ H2 D = some (.lst vacc) ∧ RepL ((c.at hh).K.more D) (fz S2 H2) acc vacc ∧
      wpLc src g t (fun ρ1 S2 Q1 => e ρ1 S2 Q1 XN) (wipeW ρ vs) (items.drop n) acc S2 (fun ws S2 => mkL live ws S2 Q) ∧ m + n = items.length,
    ⟨items.length, S1, [], [], s1', s1.hide hD, e1', upd_same, .nil, by rw [List.drop_zero]; exact q1, rfl⟩, fun n m H2 hW => ?_⟩
  obtain ⟨S2, acc, vacc, s2, s2r, e2, d2, ra, q2, em⟩ := hW
  have k2 : StoOk (c.at hh).K S2 H2 := s2.sto.unhide
  by_cases hn : n < items.length
  · rw [List.drop_eq_getElem_cons hn] at q2
    obtain ⟨hs, q2⟩ := q2
    refine .inr ⟨it.go n S2 H2 s2.sto e2 hs hn, fun H3 => ∃ S3 acc vacc, Sim ((c.at hh).K.more D) (wipeW ρ vs) (wipe σ vs) S3 H3 ∧ Sim ((c.at hh).K.more D) ρ σ S3 H3 ∧ Same (fz S1 H1) (fz S3 H3) ∧ H3 D = some (.lst vacc) ∧
        RepL ((c.at hh).K.more D) (fz S3 H3) acc vacc ∧ wpLc src g t (fun ρ1 S2 Q1 => e ρ1 S2 Q1 XN) (wipeW ρ vs) (items.drop (n + 1)) acc S3 (fun ws S2 => mkL live ws S2 Q), fun H3 hN => ?_, fun x H3 hy => ?_⟩
    · obtain ⟨S3, acc3, vacc3, a1, a2, a3, a4, a5, a6⟩ := hN
      exact ⟨m - 1, by omega, S3, acc3, vacc3, a1, a2, a3, a4, a5, a6, by omega⟩
    · obtain ⟨w, hw, k3, e3, rw'⟩ := it.yld n S2 H2 x H3 s2.sto e2 hs hn hy
      rw [List.getElem?_eq_getElem hn] at hw
      cases hw
      have hS2D : S2 D = none := (s2.sto.hid D KH.more_at).1
      have dTo : ∀ {S5 : Sto} {H5 : Hp}, Same (fz S2 H2) (fz S5 H5) → H5 D = some (.lst vacc) := fun e =>
        (fz_some (e D _ (by rw [fz_none hS2D]; exact d2))).2
      refine ⟨((c.at hh).K.more D).h, _, wipeW ρ vs, S2, _, s2.to e3 k3, rw', q2, fun ρ3 S3 σ3 H4 s3 e4 al3 q3 => ⟨wipe_al (al3.mono hal), ((c.at hh).K.more D).h, ρ3, S3, _, XN, s3, q3, fun r S4 H5 s4 e5 q4 => ?_, XCk.no⟩⟩
      · cases r with
        | true =>
          rw [if_pos rfl] at q4
          refine iteT ⟨((c.at hh).K.more D).h, ρ3, S4, _, XN, s4, q4, fun y S5 vy H6 s5 e6 r5 q5 => ?_, XCk.no⟩
          have e26 := ((e3.trans e4).trans e5).trans e6
          have hS5D : S5 D = none := (s5.sto.hid D KH.more_at).1
          refine ⟨vacc, dTo e26, by rw [← ra.length]; exact q5.1, S5, acc ++ [y], vacc ++ [vy], (s2.to e26 s5.sto).hidden KH.more_at, (s2r.to e26 s5.sto).hidden KH.more_at, offD (e2.trans e26) fz_hid, upd_same, ?_, q5.2⟩
          exact ((ra.mono e26).append (.cons r5 .nil)).hidden KH.more_at fz_hid
        | false =>
          rw [if_neg Bool.false_ne_true] at q4
          have e25 := (e3.trans e4).trans e5
          exact iteF ⟨S4, acc, vacc, s2.to e25 s4.sto, s2r.to e25 s4.sto, e2.trans e25, dTo e25, ra.mono e25, q4⟩
  · rw [List.drop_eq_nil_of_le (by omega)] at q2
    refine .inl ⟨it.stop n S2 H2 s2.sto e2 q2.1 (by omega), ?_⟩
    have hS2D : S2 D = none := (s2.sto.hid D KH.more_at).1
    have q3 := q2.2
    cases live with
    | true =>
      refine k _ _ _ _ (s2r.cell nD d2 ra) (e1.trans fun b u q => ?_) (.ref D) (q3 D hS2D)
      have hb := ne_of_none q hD1
      have := e2 b u q
      unfold fz at this ⊢
      rw [sup_ne hb]
      exact this
    | false => exact k _ _ _ _ s2r.unhide (e1.trans e2) (.lst nD (.inl (by rw [fz_none hS2D]; exact d2)) ra.unhide) q3
end MP

set_option Elab.async false
set_option linter.all false
set_option maxRecDepth 100000
set_option maxHeartbeats 4000000
/-! MP7: the check of an expression's text against its core, and what it is worth. -/
namespace MP
open PySem PySem.Spec PyProof.Rows L2

structure Gv where
  fns : List (Str × Nat)
  glb : List (Str × Const)
  /-- the law's own call: nothing is being shown -/
  rp : Bool := false
  /-- own classes of exceptions that are raised -/
  exc : List Str := []
  /-- this def may raise -/
  xr : Bool := false
  /-- isinstance of a held exception: class, what may come, where it is so -/
  isx : List (Str × List Str × List Str) := []
  /-- except clauses: class, what may come (all of it is so) -/
  tcs : List (Str × List Str) := []
  /-- this def may catch -/
  tr : Bool := false
/-- where a piece of text stands: its scope, and (in a comprehension's block) the scope as written -/
structure Sk where
  sc : Scope
  raw : Option Scope
structure CK where
  e : Sk → Expr → Bool
  es : Sk → List Expr → Bool := fun _ _ => false
  o : Sk → Option Expr → Bool := fun _ _ => false
  c : Sk → List Expr → Bool := fun _ _ => false
  g : Sk → Expr → Bool := fun _ _ => false
  gs : Sk → List Expr → Bool := fun _ _ => false
  i : Sk → Expr → Expr → Bool := fun _ _ _ => false
def noX : Sk → Expr → Bool := fun _ _ => false
def ckE (e : Sk → Expr → Bool) : CK := { e := e, o := fun k oe => match oe with | some x => e k x | none => false }
def ckT (e : Sk → Expr → Bool) : CK := { e := e }
def notStar : Expr → Bool | .Starred .. => false | _ => true
def notCall0 : Expr → Bool | .Call (.Name _ _) [] [] _ => false | _ => true
def notSlice : Expr → Bool | .Slice .. => false | _ => true
def notSet : Expr → Bool | .Set .. => false | _ => true
/-- truth is asked plainly -/
def dfltT : Expr → Bool | .UnaryOp .Not _ _ => false | .BoolOp .. => false | .IfExp .. => false | .Compare .. => false | _ => true
def visC (sc : Scope) (x : Str) : Bool := match sc.names.lookup x with | some .local => true | some .cell => true | some .free => true | _ => false
def glC (sc : Scope) (x : Str) : Bool := match sc.names.lookup x with | some .globalImplicit => true | _ => false
/-- a name that may be stored -/
def stoC (k : Sk) (x : Str) : Bool := match k.sc.names.lookup x with
  | some .local => true
  | some .cell => (match k.raw with | none => true | some r => (match r.names.lookup x with | some .cell => true | _ => false))
  | _ => false
def okN (x : Str) : Bool := !(x == ("__debug__" : Str)) && !(x == ("__classdict__" : Str)) && !(x == ("__name__" : Str))
/-- keys and values of a display by turns -/
def altE : List (Option Expr) → List Expr → Option (List Expr)
  | [], [] => some []
  | some k :: ks, v :: vs => (altE ks vs).map fun r => k :: v :: r
  | _, _ => none
def als : CE → List Nat
  | .tnm i => [i]
  | .ttup ts => als ts
  | .cons a as => als a ++ als as
  | _ => []
def ck (G : Gv) (N : List Str) (n : Nat) : CE → CK
  | .nil => { e := noX, es := fun _ es => es.isEmpty, o := fun _ oe => oe.isNone, c := fun _ cs => cs.isEmpty, gs := fun _ ts => ts.isEmpty }
  | .cons a as => {
      e := noX
      es := fun k es => match es with | x :: r => notStar x && (ck G N n a).e k x && (ck G N n as).es k r | [] => false
      c := fun k cs => match cs with | [x] => (ck G N n a).e k x | _ => false
      gs := fun k ts => match ts with | x :: r => notStar x && (ck G N n a).g k x && (ck G N n as).gs k r | [] => false }
  | .var i => ckE fun k e => match e with | .Name x _ => decide (N[i]? = some x) && visC k.sc x && okN x | _ => false
  | .cst c => ckE fun _ e => match e with | .Constant c' _ _ => decide (c' = c) && (cstW c).isSome | _ => false
  | .glb x c => ckE fun k e => match e with | .Name y _ => decide (y = x) && glC k.sc x && okN x && decide ((x, c) ∈ G.glb) | _ => false
  | .bin _ op a b => ckE fun k e => match e with | .BinOp l o r _ => decide (o = op.op) && (ck G N n a).e k l && (ck G N n b).e k r | _ => false
  | .neg a => ckE fun k e => match e with | .UnaryOp .USub l _ => (ck G N n a).e k l | _ => false
  | .nt a => ckT fun k e => match e with | .UnaryOp .Not l _ => (ck G N n a).e k l | _ => false
  | .cmp op a b => ckT fun k e => match e with | .Compare l [o] [r] _ => decide (o = op) && notSet r && (ck G N n a).e k l && (ck G N n b).e k r | _ => false
  | .chain o1 o2 a b c => ckT fun k e => match e with | .Compare l [p, q] [m, r] _ => decide (p = o1) && decide (q = o2) && notSet r && notSet m && (ck G N n a).e k l && (ck G N n b).e k m && (ck G N n c).e k r | _ => false
  | .an as => ckT fun k e => match e with | .BoolOp .And es _ => !es.isEmpty && (ck G N n as).es k es | _ => false
  | .or as => ckT fun k e => match e with | .BoolOp .Or es _ => !es.isEmpty && (ck G N n as).es k es | _ => false
  | .ife t a b => ckT fun k e => match e with | .IfExp c x y _ => (ck G N n t).e k c && (ck G N n a).e k x && (ck G N n b).e k y | _ => false
  | .call f as => ckE fun k e => match e with
    | .Call (.Name x _) es [] _ => decide (G.fns[f]? = some (x, es.length)) && decide (f < n) && glC k.sc x && okN x && (ck G N n as).es k es
    | _ => false
  | .blt b _ as => ckE fun k e => match e with
    | .Call (.Name x _) es [] _ => decide (x = b.nm) && !es.isEmpty && glC k.sc x && (ck G N n as).es k es
    | _ => false
  | .mth m o as => ckE fun k e => match e with
    | .Call (.Attribute x a apos) es [] cpos => decide (a = m.nm) && (apos.endLine == cpos.line) && decide (es.length < 30) && notCall0 x && (ck G N n o).e k x && (ck G N n as).es k es
    | _ => false
  | .idx a b => ckE fun k e => match e with | .Subscript v s _ => notSlice s && (ck G N n a).e k v && (ck G N n b).e k s | _ => false
  | .slc _ a lo hi => ckE fun k e => match e with | .Subscript v (.Slice l u none _) _ => (ck G N n a).e k v && (ck G N n lo).o k l && (ck G N n hi).o k u | _ => false
  | .rev _ a => ckE fun k e => match e with | .Subscript v (.Slice none none (some (.UnaryOp .USub (.Constant (.int 1) _ _) _)) _) _ => (ck G N n a).e k v | _ => false
  | .tup as => ckE fun k e => match e with | .Tuple es _ _ => (ck G N n as).es k es | _ => false
  | .lst _ as => ckE fun k e => match e with | .List es _ => (ck G N n as).es k es | _ => false
  | .dnew _ => ckE fun _ e => match e with | .Dict [] [] _ => true | _ => false
  | .dct as => ckE fun k e => match e with
    | .Dict ks vs _ => (match altE ks vs with | some es => (ck G N n as).es k es && decide (ks.length ≤ 15) && !ks.isEmpty | none => false)
    | _ => false
  | .lc _ own tg it cond elt => ckE fun k e => match e with
    | .ListComp x [⟨t, i, ifs, 0⟩] scope _ => blkC N k.sc scope own && notSet i && (als tg).all (fun j => (own.map (·.2)).contains j) && (ck G N n it).i k t i &&
        (ck G N n tg).g ⟨relS scope k.sc, some scope⟩ t && (ck G N n cond).c ⟨relS scope k.sc, some scope⟩ ifs && (ck G N n elt).e ⟨relS scope k.sc, some scope⟩ x
    | _ => false
  | .frz a => ckE fun k e => dfltT e && (ck G N n a).e k e
  | .lrg _ a => ckE fun k e => match e with
    | .Call (.Name x _) [.Call (.Name y _) [z] [] _] [] _ => decide (x = ("list" : Str)) && glC k.sc x && decide (y = ("range" : Str)) && glC k.sc y && notStar z && (ck G N n a).e k z
    | _ => false
  | .lzip _ a b => ckE fun k e => match e with
    | .Call (.Name x _) [.Call (.Name y _) [z, w] [] _] [] _ => decide (x = ("list" : Str)) && glC k.sc x && decide (y = ("zip" : Str)) && glC k.sc y && notStar z && notStar w && (ck G N n a).e k z && (ck G N n b).e k w
    | _ => false
  | .stp _ a s => ckE fun k e => match e with | .Subscript v (.Slice none none (some t) _) _ => (ck G N n a).e k v && (ck G N n s).e k t | _ => false
  | .sset _ a => ckE fun k e => match e with
    | .Call (.Name x _) [.Call (.Name y _) [z] [] _] [] _ => decide (x = ("sorted" : Str)) && glC k.sc x && decide (y = ("set" : Str)) && glC k.sc y && notStar z && (ck G N n a).e k z
    | _ => false
  | .rpr a => ckE fun k e => match e with
    | .Call (.Name x _) [z] [] _ => G.rp && decide (x = ("repr" : Str)) && glC k.sc x && notStar z && (ck G N n a).e k z
    | _ => false
  | .isi a t => ckE fun k e => match e with
    | .Call (.Name x _) [y, .Name z _] [] _ => decide (x = ("isinstance" : Str)) && glC k.sc x && decide (z = (t.nm : Str)) && glC k.sc z && decide (t ≠ .non) && notStar y && (ck G N n a).e k y
    | _ => false
  | .lset a => ckE fun k e => match e with
    | .Call (.Name x _) [.Call (.Name y _) [z] [] _] [] _ => decide (x = ("len" : Str)) && glC k.sc x && decide (y = ("set" : Str)) && glC k.sc y && notStar z && (ck G N n a).e k z
    | _ => false
  | .lsts a => ckE fun k e => match e with
    | .Call (.Name x _) [.Call (.Name y _) [z] [] _] [] _ => decide (x = ("len" : Str)) && glC k.sc x && decide (y = ("set" : Str)) && glC k.sc y && notStar z && (ck G N n a).e k z
    | _ => false
  | .lvals _ a => ckE fun k e => match e with
    | .Call (.Name x _) [.Call (.Attribute z y apos) [] [] cpos] [] _ => decide (x = ("list" : Str)) && glC k.sc x && decide (y = ("values" : Str)) && (apos.endLine == cpos.line) && notCall0 z && (ck G N n a).e k z
    | _ => false
  | .bck a lo st => ckE fun k e => match e with | .Subscript v (.Slice (some l) none (some t) _) _ => (ck G N n a).e k v && (ck G N n lo).e k l && (ck G N n st).e k t | _ => false
  | .isc a x ds xs => ckE fun k e => match e with
    | .Call (.Name y _) [z, .Name u _] [] _ => decide (y = ("isinstance" : Str)) && glC k.sc y && decide (u = x) && glC k.sc u && !(u == ("__debug__" : Str)) && notStar z && decide ((x, ds, xs) ∈ G.isx) && (ck G N n a).e k z
    | _ => false
  | .lck a => ckE fun k e => match e with | .ListComp .. => (ck G N n a).e k e | _ => false
  | .tnm i => { e := noX, g := fun k e => match e with | .Name x _ => decide (N[i]? = some x) && stoC k x && okN x | _ => false }
  | .ttup ts => { e := noX, g := fun k e => match e with | .Tuple es _ _ => (ck G N n ts).gs k es | _ => false }
  | .tsub o i => { e := noX, g := fun k e => match e with | .Subscript x y _ => notSlice y && (ck G N n o).e k x && (ck G N n i).e k y | _ => false }
  | .iseq a => { e := noX, i := fun k _ e => notSet e && (ck G N n a).e k e }
  | .irng1 a => { e := noX, i := fun k _ e => match e with
    | .Call (.Name x _) [y] [] _ => decide (x = ("range" : Str)) && glC k.sc x && notStar y && (ck G N n a).e k y
    | _ => false }
  | .irng2 a b => { e := noX, i := fun k _ e => match e with
    | .Call (.Name x _) [y, z] [] _ => decide (x = ("range" : Str)) && glC k.sc x && notStar y && notStar z && (ck G N n a).e k y && (ck G N n b).e k z
    | _ => false }
  | .irng3 a b c => { e := noX, i := fun k _ e => match e with
    | .Call (.Name x _) [y, z, w] [] _ => decide (x = ("range" : Str)) && glC k.sc x && notStar y && notStar z && notStar w && (ck G N n a).e k y && (ck G N n b).e k z && (ck G N n c).e k w
    | _ => false }
  | .izip a b => { e := noX, i := fun k t e => match t, e with
    | .Tuple _ _ _, .Call (.Name x _) [l, r] [] _ => decide (x = ("zip" : Str)) && glC k.sc x && notStar l && notStar r && (ck G N n a).e k l && (ck G N n b).e k r
    | _, _ => false }
  | .ienm a => { e := noX, i := fun k t e => match t, e with
    | .Tuple _ _ _, .Call (.Name x _) [l] [] _ => decide (x = ("enumerate" : Str)) && glC k.sc x && notStar l && (ck G N n a).e k l
    | _, _ => false }
  | .ikeys a => { e := noX, i := fun k _ e => notSet e && (ck G N n a).e k e }

/-! ### a def's promise, by plain values -/
abbrev Spec := List W → Sto → WK → XC → Prop
def spOf (K : PySem.W.Frag) (sp : Spec) : Sp := fun vs H Q E => ∃ h ws S Qw Xw, RepL ⟨K, h⟩ (fz S H) ws vs ∧ StoOk ⟨K, h⟩ S H ∧ sp ws S Qw Xw ∧
  (∀ w S' v H', StoOk ⟨K, h⟩ S' H' → Same (fz S H) (fz S' H') → Rep ⟨K, h⟩ (fz S' H') w v → Qw w S' → Q v H') ∧ XCk ⟨K, h⟩ E S H Xw
/-- an own class of exceptions, without own __init__ -/
structure ExcF (K : PySem.W.Frag) (mg : Str → Option Value) (x : Str) : Prop where
  gC : mg x = some (.ref (clsA K x))
  q : ∃ (bmB : List Value) (B newId initId : String), ExcBaseFacts B newId initId bmB ∧ PySem.W.excIn K (clsA K x) bmB newId = true
  kC : PySem.W.keepIn K (.ref (clsA K x)) = true
  s : PySem.W.subIn K (.ref (clsA K x)) (.type "BaseException") = some true
  t : PySem.W.typeIn K (.ref (clsA K x)) = some (.type "type")
structure IsxF (K : PySem.W.Frag) (mg : Str → Option Value) (x : Str) (ds xs : List Str) : Prop where
  ex : ∀ c ∈ ds, ExcC K (clsA K c)
  nm : (mg x = some (.ref (clsA K x)) ∧ ∀ c ∈ ds, PySem.W.kitOne K (.ref (clsA K c)) (.ref (clsA K x)) = some (decide (c ∈ xs))) ∨
    (mg x = none ∧ x = "ValueError" ∧ ∀ c ∈ ds, PySem.W.kitOne K (.ref (clsA K c)) (.type "ValueError") = some (decide (c ∈ xs)))
structure TcsF (K : PySem.W.Frag) (mg : Str → Option Value) (x : Str) (xs : List Str) : Prop where
  gC : mg x = some (.ref (clsA K x))
  ex : ∀ c ∈ xs, PySem.W.exmOne K (.ref (clsA K c)) (.ref (clsA K x)) = some true
/-- what the module has, for the context's sake -/
structure GOk (P : Program) (w : World) (K : PySem.W.Frag) (mg : Str → Option Value) (base : Heap) (CX : CXT) (G : Gv) (Φ : Nat → Spec) (n : Nat) : Prop where
  fns : ∀ i x m, G.fns[i]? = some (x, m) → i < n → ∃ f fd ps, mg x = some (.ref f) ∧ PySem.W.keepIn K (.ref f) = true ∧ ps.length = m ∧ Binds K fd ps [] ∧ FnOk P w K mg base CX (i + 1) f fd ps (spOf K (Φ i))
  blt : ∀ b : Blt, mg b.nm = none
  more : mg "range" = none ∧ mg "zip" = none ∧ mg "enumerate" = none ∧ mg "isinstance" = none ∧ mg "set" = none ∧ mg "sorted" = none ∧ mg "dict" = none ∧ mg "reversed" = none ∧ mg "bool" = none
  glb : ∀ x c, (x, c) ∈ G.glb → ∃ u v w', cstW c = some w' ∧ mg x = some u ∧ RelV v u ∧ ∀ Kh F, Rep Kh F w' v
  e0 : ∀ X : Cx, X.prog = P → X.w = w → ∀ σ, PassesAt CX X σ E0
  exc : ∀ x, x ∈ G.exc → ExcF K mg x
  isx : ∀ x ds xs, (x, ds, xs) ∈ G.isx → IsxF K mg x ds xs
  tcs : ∀ x xs, (x, xs) ∈ G.tcs → TcsF K mg x xs
  cx : G.tr = true → CX = L2.CX P w
structure XOk (CX : CXT) (G : Gv) (Φ : Nat → Spec) (n : Nat) (E : L2.St → XK) (k : Sk) (X : Cx) : Prop where
  g : GOk X.prog X.w X.K X.mg X.base CX G Φ n
  calm : X.calm = true
  nd : X.N.Nodup
  room : Room n X.A
  gd : G.rp = true → X.A.guards = some []
  rpn : G.rp = true → X.mg "repr" = none
  sc : X.env.scope = k.sc
  fn : ∀ x, (∀ r, k.raw = some r → r.names.lookup x = some .cell) → X.fn x = true
  pass : ∀ σ, PassesAt CX X σ (E σ)
  own : PassesOwn (model X.prog X.w) X.A X.env X.xe
  tk : G.xr = true → Takes X (fun cls d σ H => E σ cls d H)
  top : G.tr = true → k.raw = none → X.stack = X.env :: X.outer ∧ X.env.frame = some X.env.locals ∧ X.ex = []
section
variable {CX : CXT} {G : Gv} {Φ : Nat → Spec} {n : Nat} {E : L2.St → XK} {k : Sk} {X : Cx}

theorem vis_of (x : XOk CX G Φ n E k X) {y : Str} (h : visC k.sc y = true) : Vis X.env.scope y := by
  rw [x.sc]
  unfold visC at h
  unfold Vis
  split at h <;> simp_all
theorem gl_of (x : XOk CX G Φ n E k X) {y : Str} (h : glC k.sc y = true) : Gl X y := by
  show X.env.scope.names.lookup y = _
  rw [x.sc]
  unfold glC at h
  split at h <;> simp_all
theorem loc_of (x : XOk CX G Φ n E k X) {y : Str} (h : stoC k y = true) : L2.Loc X.env.scope y ∧ (X.fn y = true ∨ X.env.scope.names.lookup y = some .local) := by
  rw [x.sc]
  unfold stoC at h
  unfold L2.Loc
  split at h
  · rename_i e
    exact ⟨.inl e, .inr e⟩
  · rename_i e
    refine ⟨.inr e, .inl (x.fn y fun r hr => ?_)⟩
    rw [hr] at h
    simp only at h
    split at h
    · assumption
    · cases h
  · cases h
theorem ok_dbg {y : Str} (h : okN y = true) : (y == ("__debug__" : Str)) = false ∧ (y == ("__classdict__" : Str)) = false ∧ y ≠ "__name__" := by
  unfold okN at h
  simp only [Bool.and_eq_true, Bool.not_eq_true'] at h
  refine ⟨h.1.1, h.1.2, fun e => ?_⟩
  have := h.2
  rw [e] at this
  simp at this
theorem units_of {n : Nat} {A : Around} (r : Room n A) : A.units + 65 < cLine := by have := r.un; omega
end
end MP

set_option Elab.async false
set_option linter.all false
set_option maxRecDepth 100000
set_option maxHeartbeats 4000000
/-! MP8: expressions: what is checked runs as the core says. -/
namespace MP
open PySem PySem.Spec PyProof.Rows L2

theorem star_of {e : Expr} {es : List Expr} {env : PySem.Env} (h : notStar e = true) : starEach (e :: es) env = (false, eval e env) :: starEach es env := by
  cases e <;> first | rfl | cases h
theorem asg_of {e : Expr} {es : List Expr} {env : PySem.Env} (h : notStar e = true) : assignEach (e :: es) env = (false, assign e env) :: assignEach es env := by
  cases e <;> first | rfl | cases h
theorem fold_of {e : Expr} {env : PySem.Env} (h : notSet e = true) : ∀ x, foldedSetIterable e env x = pure x := by
  intro x
  cases e <;> first | rfl | cases h
theorem mark_of {op : CmpOp} {e : Expr} (h : notSet e = true) : behindInMarks op e = false := by
  cases e <;> first | rfl | cases h
theorem plain_of {s : Expr} (h : notSlice s = true) : ∀ o i, subscripted s false o i = operate [o, i] (getItem o i) := by
  intro o i
  cases s <;> first | rfl | cases h
theorem base_of {o : Expr} {m : Str} {env : PySem.Env} {wh : Sem Value} (h : notCall0 o = true) : attributeBase o m env wh = wh := by
  unfold attributeBase
  split
  · cases h
  · rfl
theorem true_of {e : Expr} {env : PySem.Env} (h : dfltT e = true) : ∀ whole, isTrue e env whole = (do let v ← whole; standAt e.pos; holding [v] (truthy v)) := by
  intro whole
  cases e <;> first | rfl | (cases h) | skip
  rename_i op _ _
  cases op <;> first | rfl | cases h
theorem truW_v {K : KH} {S : Sto} {H : Hp} {x : W} {v : V} {b : Bool} (k : StoOk K S H) (r : Rep K (fz S H) x v) (h : truW S x = some b) : TruV K.K v H b := by
  cases x with
  | non => cases r; cases h; rfl
  | bl c => cases r; cases h; rfl
  | int i => cases r; cases h; rfl
  | str z =>
    cases r
    have h' : (if z.length ≤ sizeLine then some ((z.length : Int) != 0) else none) = some b := h
    by_cases hl : z.length ≤ sizeLine
    · rw [if_pos hl] at h'
      cases h'
      exact ⟨hl, rfl⟩
    · rw [if_neg hl] at h'
      cases h'
  | tup ws =>
    cases h
    obtain ⟨a, vs, rfl, ha, ra⟩ := tup_sq r
    exact .inr (.inl ⟨vs, .of ha, by cases ra <;> rfl⟩)
  | lst ws =>
    cases h
    obtain ⟨a, vs, rfl, ha, ra⟩ := rdL_sq k r rfl
    exact .inl ⟨vs, ha.sq, by cases ra <;> rfl⟩
  | ref a =>
    cases r
    cases e : S a with
    | none => simp [truW, e] at h
    | some o =>
      simp only [truW, e, Option.bind_some] at h
      obtain ⟨u, hu, q⟩ := k.at' a o e
      cases o with
      | lst ws =>
        cases h
        obtain ⟨vs, rfl, ra⟩ := q
        exact .inl ⟨vs, .of hu, by cases ra <;> rfl⟩
      | dk kvs =>
        cases h
        obtain ⟨vs, rfl, ra⟩ := q
        exact .inr (.inr ⟨vs, hu, by cases ra <;> rfl⟩)
      | _ => cases h
theorem cst_v {Kh : KH} {F : Hp} {c : Const} {w : W} (h : cstW c = some w) : ∃ v, Rep Kh F w v ∧ ∀ (X : Cx) j pos, PE X (.Constant c j pos) (tC v) := by
  cases c with
  | none => cases h; exact ⟨_, .non, fun _ _ _ => pe_non⟩
  | bool b => cases h; exact ⟨_, .bl b, fun _ _ _ => pe_bl⟩
  | int i => cases h; exact ⟨_, .int i, fun _ _ _ => pe_int⟩
  | str x => cases h; exact ⟨_, .str x, fun _ _ _ => pe_str⟩
  | _ => cases h
theorem blt_okN : ∀ b : Blt, okN b.nm = true := by intro b; cases b <;> decide +kernel
theorem blt_boot : ∀ b : Blt, bootBuiltins b.nm = some b.val := by intro b; cases b <;> decide +kernel

section
variable {CX : CXT} {G : Gv} {Φ : Nat → Spec} {n : Nat}
/-- what a piece of the core is worth -/
structure Snd (CX : CXT) (G : Gv) (Φ : Nat → Spec) (n : Nat) (c : CE) : Prop where
  e : ∀ {N : List Str} {E : L2.St → XK} {k : Sk} {X : Cx} {x : Expr}, XOk CX G Φ n E k X → X.N = N → (ck G N n c).e k x = true → PE X x (tOf ⟨X.K, E⟩ (wp Φ c).e)
  t : ∀ {N : List Str} {E : L2.St → XK} {k : Sk} {X : Cx} {x : Expr}, XOk CX G Φ n E k X → X.N = N → (ck G N n c).e k x = true → PT X x (tOfT ⟨X.K, E⟩ (wp Φ c).t)
  es : ∀ {N : List Str} {E : L2.St → XK} {k : Sk} {X : Cx} {xs : List Expr}, XOk CX G Φ n E k X → X.N = N → (ck G N n c).es k xs = true → PA X xs (tOfA ⟨X.K, E⟩ (wp Φ c).es)
  an : ∀ {N : List Str} {E : L2.St → XK} {k : Sk} {X : Cx} {xs : List Expr} {pos : Pos}, XOk CX G Φ n E k X → X.N = N → (ck G N n c).es k xs = true → xs ≠ [] → PE X (.BoolOp .And xs pos) (tOf ⟨X.K, E⟩ (wp Φ c).an)
  or : ∀ {N : List Str} {E : L2.St → XK} {k : Sk} {X : Cx} {xs : List Expr} {pos : Pos}, XOk CX G Φ n E k X → X.N = N → (ck G N n c).es k xs = true → xs ≠ [] → PE X (.BoolOp .Or xs pos) (tOf ⟨X.K, E⟩ (wp Φ c).or)
  ant : ∀ {N : List Str} {E : L2.St → XK} {k : Sk} {X : Cx} {xs : List Expr} {pos : Pos}, XOk CX G Φ n E k X → X.N = N → (ck G N n c).es k xs = true → xs ≠ [] → PW X (.BoolOp .And xs pos) (tOfT ⟨X.K, E⟩ (wp Φ c).ant)
  ort : ∀ {N : List Str} {E : L2.St → XK} {k : Sk} {X : Cx} {xs : List Expr} {pos : Pos}, XOk CX G Φ n E k X → X.N = N → (ck G N n c).es k xs = true → xs ≠ [] → PW X (.BoolOp .Or xs pos) (tOfT ⟨X.K, E⟩ (wp Φ c).ort)
  ns : ∀ {N : List Str} {k : Sk} {xs : List Expr}, (ck G N n c).es k xs = true → xs.all notStar = true
  more : ∀ {N : List Str} {k : Sk} {xs : List Expr}, (ck G N n c).es k xs = true → ((wp Φ c).more = true ↔ xs ≠ [])
  o : ∀ {N : List Str} {E : L2.St → XK} {k : Sk} {X : Cx} {x : Option Expr}, XOk CX G Φ n E k X → X.N = N → (ck G N n c).o k x = true → PO X x (tOfO ⟨X.K, E⟩ (wp Φ c).o)
  cc : ∀ {N : List Str} {E : L2.St → XK} {k : Sk} {X : Cx} {xs : List Expr}, XOk CX G Φ n E k X → X.N = N → (ck G N n c).c k xs = true → PTs X xs (tOfT ⟨X.K, E⟩ fun ρ S Q _ => (wp Φ c).c ρ S Q)
  g : ∀ {N : List Str} {E : L2.St → XK} {k : Sk} {X : Cx} {x : Expr}, XOk CX G Φ n E k X → X.N = N → (ck G N n c).g k x = true → PG X x (tOfG ⟨X.K, E⟩ (als c) (wp Φ c).g)
  gs : ∀ {N : List Str} {E : L2.St → XK} {k : Sk} {X : Cx} {xs : List Expr}, XOk CX G Φ n E k X → X.N = N → (ck G N n c).gs k xs = true → PGs X xs (tOfGs ⟨X.K, E⟩ (als c) (wp Φ c).gs) ∧
    (assignEach xs X.env).length = xs.length ∧ (assignEach xs X.env).findIdx? (·.1) = none
  i : ∀ {N : List Str} {E : L2.St → XK} {k : Sk} {X : Cx} {t x : Expr}, XOk CX G Φ n E k X → X.N = N → (ck G N n c).i k t x = true → PI X t x (tOfI ⟨X.K, E⟩ (wp Φ c).i)
/-- an expression whose truth is asked plainly -/
theorem sndE {c : CE} (e : WE) (f : List Str → Sk → Expr → Bool) (hw : wp Φ c = rdE e) (hc : ∀ N, ck G N n c = ckE (f N)) (hd : ∀ N k x, f N k x = true → dfltT x = true)
    (h : ∀ {N : List Str} {E : L2.St → XK} {k : Sk} {X : Cx} {x : Expr}, XOk CX G Φ n E k X → X.N = N → f N k x = true → PE X x (tOf ⟨X.K, E⟩ e)) : Snd CX G Φ n c := by
  have he : ∀ {N : List Str} {E : L2.St → XK} {k : Sk} {X : Cx} {x : Expr}, XOk CX G Φ n E k X → X.N = N → (ck G N n c).e k x = true → PE X x (tOf ⟨X.K, E⟩ (wp Φ c).e) := fun {N E k X x} x' hN hx => by
    rw [hc] at hx
    rw [hw]
    exact h x' hN hx
  refine ⟨he, fun {N E k X x} x' hN hx => ?_, fun {N E k X x} x' hN hx => ?_, fun {N E k X x p} x' hN hx => ?_, fun {N E k X x p} x' hN hx => ?_, fun {N E k X x p} x' hN hx => ?_, fun {N E k X x p} x' hN hx => ?_,
    fun {N k x} hx => ?_, fun {N k x} hx => ?_, fun {N E k X x} x' hN hx => ?_, fun {N E k X x} x' hN hx => ?_, fun {N E k X x} x' hN hx => ?_, fun {N E k X x} x' hN hx => ?_, fun {N E k X t x} x' hN hx => ?_⟩
  · have h1 := he x' hN hx
    rw [hc] at hx
    rw [hw] at h1 ⊢
    refine PT.imp (pt_truth h1 (true_of (hd _ _ _ hx))) fun σ H Q q => ?_
    obtain ⟨hh, ρ, S, Q0, Y, s, q, kv, kx⟩ := q
    refine ⟨hh, ρ, S, _, Y, s, q, fun w S1 v H1 s1 e1 r1 q1 => ?_, kx⟩
    obtain ⟨b, hb, q1⟩ := q1
    exact ⟨b, truW_v s1.sto r1 hb, kv b S1 H1 s1 e1 q1⟩
  · rw [hc] at hx; cases hx
  · rw [hc] at hx; cases hx
  · rw [hc] at hx; cases hx
  · rw [hc] at hx; cases hx
  · rw [hc] at hx; cases hx
  · rw [hc] at hx; cases hx
  · rw [hc] at hx; cases hx
  · rw [hc] at hx
    cases x with
    | none => cases hx
    | some x =>
      rw [hw]
      refine PO.imp (po_some (h x' hN hx)) fun σ H Q q => ?_
      obtain ⟨hh, ρ, S, Q0, Y, s, q, kv, kx⟩ := q
      refine ⟨hh, ρ, S, _, Y, s, q, fun w S1 v H1 s1 e1 r1 q1 => ?_, kx⟩
      obtain ⟨i, rfl, q1⟩ := q1
      cases r1
      exact ⟨i, rfl, kv _ S1 H1 s1 e1 q1⟩
  · rw [hc] at hx; cases hx
  · rw [hc] at hx; cases hx
  · rw [hc] at hx; cases hx
  · rw [hc] at hx; cases hx
/-- an expression that has a test of its own -/
theorem sndT {c : CE} (e : WE) (t : Env → Sto → (Bool → Sto → Prop) → XC → Prop) (f : List Str → Sk → Expr → Bool) (hw : wp Φ c = rdT e t) (hc : ∀ N, ck G N n c = ckT (f N))
    (h : ∀ {N : List Str} {E : L2.St → XK} {k : Sk} {X : Cx} {x : Expr}, XOk CX G Φ n E k X → X.N = N → f N k x = true → PE X x (tOf ⟨X.K, E⟩ e) ∧ PT X x (tOfT ⟨X.K, E⟩ t)) : Snd CX G Φ n c := by
  refine ⟨fun {N E k X x} x' hN hx => ?_, fun {N E k X x} x' hN hx => ?_, fun {N E k X x} x' hN hx => ?_, fun {N E k X x p} x' hN hx => ?_, fun {N E k X x p} x' hN hx => ?_, fun {N E k X x p} x' hN hx => ?_, fun {N E k X x p} x' hN hx => ?_,
    fun {N k x} hx => ?_, fun {N k x} hx => ?_, fun {N E k X x} x' hN hx => ?_, fun {N E k X x} x' hN hx => ?_, fun {N E k X x} x' hN hx => ?_, fun {N E k X x} x' hN hx => ?_, fun {N E k X t x} x' hN hx => ?_⟩
  · rw [hc] at hx
    rw [hw]
    exact (h x' hN hx).1
  · rw [hc] at hx
    rw [hw]
    exact (h x' hN hx).2
  all_goals (rw [hc] at hx; cases hx)
/-- a piece that is a target, or what is walked, alone -/
theorem sndO {c : CE} (he : ∀ N k x, (ck G N n c).e k x = false) (hes : ∀ N k x, (ck G N n c).es k x = false) (ho : ∀ N k x, (ck G N n c).o k x = false) (hcc : ∀ N k x, (ck G N n c).c k x = false) (hgs : ∀ N k x, (ck G N n c).gs k x = false)
    (g : ∀ {N : List Str} {E : L2.St → XK} {k : Sk} {X : Cx} {x : Expr}, XOk CX G Φ n E k X → X.N = N → (ck G N n c).g k x = true → PG X x (tOfG ⟨X.K, E⟩ (als c) (wp Φ c).g))
    (i : ∀ {N : List Str} {E : L2.St → XK} {k : Sk} {X : Cx} {t x : Expr}, XOk CX G Φ n E k X → X.N = N → (ck G N n c).i k t x = true → PI X t x (tOfI ⟨X.K, E⟩ (wp Φ c).i)) : Snd CX G Φ n c := by
  refine ⟨fun {N E k X x} x' hN hx => ?_, fun {N E k X x} x' hN hx => ?_, fun {N E k X x} x' hN hx => ?_, fun {N E k X x p} x' hN hx => ?_, fun {N E k X x p} x' hN hx => ?_, fun {N E k X x p} x' hN hx => ?_, fun {N E k X x p} x' hN hx => ?_,
    fun {N k x} hx => ?_, fun {N k x} hx => ?_, fun {N E k X x} x' hN hx => ?_, fun {N E k X x} x' hN hx => ?_, g, fun {N E k X x} x' hN hx => ?_, i⟩
  · rw [he] at hx; cases hx
  · rw [he] at hx; cases hx
  · rw [hes] at hx; cases hx
  · rw [hes] at hx; cases hx
  · rw [hes] at hx; cases hx
  · rw [hes] at hx; cases hx
  · rw [hes] at hx; cases hx
  · rw [hes] at hx; cases hx
  · rw [hes] at hx; cases hx
  · rw [ho] at hx; cases hx
  · rw [hcc] at hx; cases hx
  · rw [hgs] at hx; cases hx

/-! ### the pieces -/
theorem snd_var (i : Nat) : Snd CX G Φ n (.var i) := by
  refine sndE _ _ rfl (fun N => rfl) (fun N k x hx => by cases x <;> first | rfl | cases hx) fun {N E k X x} o hN hx => ?_
  cases x with
  | Name y p =>
    simp only [Bool.and_eq_true] at hx
    obtain ⟨⟨h1, h2⟩, h3⟩ := hx
    have d := ok_dbg h3
    refine PE.imp (pe_var (i := i) (by rw [hN]; exact of_decide_eq_true h1) (vis_of o h2) d.1 d.2.1) fun σ H Q q => ?_
    obtain ⟨hh, ρ, S, Q0, Y, s, ⟨w, hw, q⟩, kv, kx⟩ := q
    obtain ⟨v, hv, r⟩ := s.var i w hw
    exact ⟨v, hv, kv.give s r q⟩
  | _ => cases hx
theorem snd_cst (c : Const) : Snd CX G Φ n (.cst c) := by
  refine sndE _ _ rfl (fun N => rfl) (fun N k x hx => by cases x <;> first | rfl | cases hx) fun {N E k X x} o hN hx => ?_
  cases x with
  | Constant c' j p =>
    simp only [Bool.and_eq_true] at hx
    obtain ⟨h1, h2⟩ := hx
    obtain rfl := of_decide_eq_true h1
    obtain ⟨w, hw⟩ := Option.isSome_iff_exists.mp h2
    obtain ⟨v, hv⟩ : ∃ v, ∀ (Kh : KH) (F : Hp), Rep Kh F w v ∧ ∀ (X : Cx) j pos, PE X (.Constant c' j pos) (tC v) := by
      cases c' <;> first
        | (cases hw; exact ⟨_, fun _ _ => ⟨.non, fun _ _ _ => pe_non⟩⟩)
        | (cases hw; exact ⟨_, fun _ _ => ⟨.bl _, fun _ _ _ => pe_bl⟩⟩)
        | (cases hw; exact ⟨_, fun _ _ => ⟨.int _, fun _ _ _ => pe_int⟩⟩)
        | (cases hw; exact ⟨_, fun _ _ => ⟨.str _, fun _ _ _ => pe_str⟩⟩)
        | cases hw
    refine PE.imp ((hv ⟨X.K, fun _ => false⟩ (fun _ => none)).2 X j p) fun σ H Q q => ?_
    obtain ⟨hh, ρ, S, Q0, Y, s, ⟨w', hw', q⟩, kv, kx⟩ := q
    rw [hw] at hw'
    cases hw'
    exact kv.give s (hv _ _).1 q
  | _ => cases hx
theorem snd_glb (x : Str) (c : Const) : Snd CX G Φ n (.glb x c) := by
  refine sndE _ _ rfl (fun N => rfl) (fun N k x hx => by cases x <;> first | rfl | cases hx) fun {N E k X z} o hN hx => ?_
  cases z with
  | Name y p =>
    simp only [Bool.and_eq_true] at hx
    obtain ⟨⟨⟨h1, h2⟩, h3⟩, h4⟩ := hx
    obtain rfl := of_decide_eq_true h1
    obtain ⟨u, v, w, hw, hm, hr, rep⟩ := o.g.glb y c (of_decide_eq_true h4)
    refine PE.imp (pe_glob (gl_of o h2) hm hr (ok_dbg h3).1) fun σ H Q q => ?_
    obtain ⟨hh, ρ, S, Q0, Y, s, ⟨w', hw', q⟩, kv, kx⟩ := q
    rw [hw] at hw'
    cases hw'
    exact kv.give s (rep _ _) q
  | _ => cases hx
theorem snd_bin {live : Bool} {op : Bop} {a b : CE} (ha : Snd CX G Φ n a) (hb : Snd CX G Φ n b) : Snd CX G Φ n (.bin live op a b) := by
  refine sndE _ _ rfl (fun N => rfl) (fun N k x hx => by cases x <;> first | rfl | cases hx) fun {N E k X x} o hN hx => ?_
  cases x with
  | BinOp l p r pos =>
    simp only [Bool.and_eq_true] at hx
    obtain ⟨⟨h1, h2⟩, h3⟩ := hx
    obtain rfl := of_decide_eq_true h1
    exact PE.imp (pe_op (op_bop op) (ha.e o hN h2) (hb.e o hN h3)) fun σ H Q q => tOf_op (fun h => ops_bop op) q
  | _ => cases hx
theorem snd_neg {a : CE} (ha : Snd CX G Φ n a) : Snd CX G Φ n (.neg a) := by
  refine sndE _ (fun N k e => match e with | .UnaryOp .USub l _ => (ck G N n a).e k l | _ => false) rfl (fun N => rfl) (fun N k x hx => ?_) fun {N E k X x} o hN hx => ?_
  · split at hx
    · rfl
    · cases hx
  · split at hx
    · refine PE.imp (pe_un un_neg (ha.e o hN hx)) fun σ H Q q => ?_
      obtain ⟨hh, ρ, S, Q0, Y, s, q, kv, kx⟩ := q
      refine ⟨hh, ρ, S, _, Y, s, q, fun w S1 v H1 s1 e1 r1 q1 => ?_, kx⟩
      obtain ⟨i, rfl, q1⟩ := q1
      cases r1
      exact ⟨i, rfl, (kv.to e1).give s1 (.int _) q1⟩
    · cases hx
theorem snd_nt {a : CE} (ha : Snd CX G Φ n a) : Snd CX G Φ n (.nt a) := by
  refine sndT _ _ (fun N k e => match e with | .UnaryOp .Not l _ => (ck G N n a).e k l | _ => false) rfl (fun N => rfl) fun {N E k X x} o hN hx => ?_
  split at hx
  · refine ⟨PE.imp (pe_notT (ha.e o hN hx)) fun σ H Q q => ?_, PT.imp (pt_not (ha.t o hN hx)) fun σ H Q q => ?_⟩
    · obtain ⟨hh, ρ, S, Q0, Y, s, q, kv, kx⟩ := q
      refine ⟨hh, ρ, S, _, Y, s, q, fun w S1 v H1 s1 e1 r1 q1 => ?_, kx⟩
      obtain ⟨b, hb, q1⟩ := q1
      exact ⟨b, truW_v s1.sto r1 hb, (kv.to e1).give s1 (.bl _) q1⟩
    · obtain ⟨hh, ρ, S, Q0, Y, s, q, kv, kx⟩ := q
      exact ⟨hh, ρ, S, _, Y, s, q, fun b S1 H1 s1 e1 q1 => kv _ S1 H1 s1 e1 q1, kx⟩
  · cases hx
theorem snd_cmp {op : CmpOp} {a b : CE} (ha : Snd CX G Φ n a) (hb : Snd CX G Φ n b) : Snd CX G Φ n (.cmp op a b) := by
  refine sndT _ _ (fun N k e => match e with | .Compare l [o] [r] _ => decide (o = op) && notSet r && (ck G N n a).e k l && (ck G N n b).e k r | _ => false) rfl (fun N => rfl) fun {N E k X x} o hN hx => ?_
  split at hx
  · simp only [Bool.and_eq_true] at hx
    obtain ⟨⟨⟨h1, h2⟩, h3⟩, h4⟩ := hx
    obtain rfl := of_decide_eq_true h1
    have R := op_cmp (X := X) (units_of o.room)
    refine ⟨PE.imp (pe_cmpR (R _) (ha.e o hN h3) (hb.e o hN h4) (mark_of h2)) fun σ H Q q => ?_, PT.imp (pt_cmpR (R _) (ha.e o hN h3) (hb.e o hN h4) (mark_of h2)) fun σ H Q q => ?_⟩
    · obtain ⟨hh, ρ, S, Q0, Y, s, q, kv, kx⟩ := q
      refine ⟨hh, ρ, S, _, Y, s, q, fun x S1 vx H1 s1 e1 r1 q1 => ⟨hh, ρ, S1, _, Y, s1, q1, fun y S2 vy H2 s2 e2 r2 q2 => ?_, kx.to e1⟩, kx⟩
      exact cmps (C := (⟨X.K, E⟩ : Ct0).at hh) _ x y vx vy S2 H2 _ _ s2.sto (r1.mono e2) r2 q2 fun b q => (kv.to (e1.trans e2)).give s2 (.bl b) q
    · obtain ⟨hh, ρ, S, Q0, Y, s, q, kv, kx⟩ := q
      refine ⟨hh, ρ, S, _, Y, s, q, fun x S1 vx H1 s1 e1 r1 q1 => ⟨hh, ρ, S1, _, Y, s1, q1, fun y S2 vy H2 s2 e2 r2 q2 => ?_, kx.to e1⟩, kx⟩
      exact cmps (C := (⟨X.K, E⟩ : Ct0).at hh) _ x y vx vy S2 H2 _ _ s2.sto (r1.mono e2) r2 q2 fun b q => ⟨b, rfl, kv b S2 H2 s2 (e1.trans e2) q⟩
  · cases hx
end
end MP

set_option Elab.async false
set_option linter.all false
set_option maxRecDepth 100000
set_option maxHeartbeats 4000000
/-! MP9: expressions, further. -/
namespace MP
open PySem PySem.Spec PyProof.Rows L2

section
variable {CX : CXT} {G : Gv} {Φ : Nat → Spec} {n : Nat}
theorem marks2 {o1 o2 : CmpOp} {a b : Expr} (h : notSet b = true) : lastMarks [o1, o2] [a, b] = false := by
  show behindInMarks o2 b = false
  exact mark_of h
theorem snd_chain {o1 o2 : CmpOp} {a b d : CE} (ha : Snd CX G Φ n a) (hb : Snd CX G Φ n b) (hd : Snd CX G Φ n d) : Snd CX G Φ n (.chain o1 o2 a b d) := by
  refine sndT _ _ (fun N k e => match e with | .Compare l [p, q] [m, r] _ => decide (p = o1) && decide (q = o2) && notSet r && notSet m && (ck G N n a).e k l && (ck G N n b).e k m && (ck G N n d).e k r | _ => false) rfl (fun N => rfl) fun {N E k X x} o hN hx => ?_
  split at hx
  · simp only [Bool.and_eq_true] at hx
    obtain ⟨⟨⟨⟨⟨⟨h1, h2⟩, h3⟩, h3'⟩, h4⟩, h5⟩, h6⟩ := hx
    obtain rfl := of_decide_eq_true h1
    obtain rfl := of_decide_eq_true h2
    have R := op_cmp (X := X) (units_of o.room)
    have S := fun hh o' => cmps (C := (⟨X.K, E⟩ : Ct0).at hh) o'
    refine ⟨PE.imp (pe_chain (R _) (R _) (ha.e o hN h4) (hb.e o hN h5) (hd.e o hN h6) (marks2 h3)) fun σ H Q q => ?_, PT.imp (pt_chain (R _) (R _) (ha.e o hN h4) (hb.e o hN h5) (hd.e o hN h6) (marks2 h3)) fun σ H Q q => ?_⟩
    · obtain ⟨hh, ρ, S0, Q0, Y, s, q, kv, kx⟩ := q
      refine ⟨hh, ρ, S0, _, Y, s, q, fun x S1 vx H1 s1 e1 r1 q1 => ⟨hh, ρ, S1, _, Y, s1, q1, fun y S2 vy H2 s2 e2 r2 q2 => ?_, kx.to e1⟩, kx⟩
      have e12 := e1.trans e2
      refine S hh _ x y vx vy S2 H2 _ _ s2.sto (r1.mono e2) r2 q2 fun b q => ⟨b, rfl, ?_⟩
      cases b with
      | true =>
        rw [if_pos rfl] at q
        refine iteT ⟨hh, ρ, S2, _, Y, s2, q, fun z S3 vz H3 s3 e3 r3 q3 => ?_, kx.to e12⟩
        exact S hh _ y z vy vz S3 H3 _ _ s3.sto (r2.mono e3) r3 q3 fun b q => (kv.to (e12.trans e3)).give s3 (.bl b) q
      | false =>
        rw [if_neg Bool.false_ne_true] at q
        exact iteF ((kv.to e12).give s2 (.bl _) q)
    · obtain ⟨hh, ρ, S0, Q0, Y, s, q, kv, kx⟩ := q
      refine ⟨hh, ρ, S0, _, Y, s, q, fun x S1 vx H1 s1 e1 r1 q1 => ⟨hh, ρ, S1, _, Y, s1, q1, fun y S2 vy H2 s2 e2 r2 q2 => ?_, kx.to e1⟩, kx⟩
      have e12 := e1.trans e2
      refine S hh _ x y vx vy S2 H2 _ _ s2.sto (r1.mono e2) r2 q2 fun b q => ⟨b, rfl, ?_⟩
      cases b with
      | true =>
        rw [if_pos rfl] at q
        refine iteT ⟨hh, ρ, S2, _, Y, s2, q, fun z S3 vz H3 s3 e3 r3 q3 => ?_, kx.to e12⟩
        exact S hh _ y z vy vz S3 H3 _ _ s3.sto (r2.mono e3) r3 q3 fun b q => ⟨b, rfl, kv b S3 H3 s3 (e12.trans e3) q⟩
      | false =>
        rw [if_neg Bool.false_ne_true] at q
        exact iteF ⟨false, rfl, kv _ S2 H2 s2 e12 q⟩
  · cases hx
theorem snd_an {as : CE} (ha : Snd CX G Φ n as) : Snd CX G Φ n (.an as) := by
  refine sndT _ _ (fun N k e => match e with | .BoolOp .And es _ => !es.isEmpty && (ck G N n as).es k es | _ => false) rfl (fun N => rfl) fun {N E k X x} o hN hx => ?_
  split at hx
  · simp only [Bool.and_eq_true] at hx
    have ne : ∀ {es : List Expr}, (!es.isEmpty) = true → es ≠ [] := fun h e => by subst e; cases h
    exact ⟨ha.an o hN hx.2 (ne hx.1), (ha.ant o hN hx.2 (ne hx.1)).pt⟩
  · cases hx
theorem snd_or {as : CE} (ha : Snd CX G Φ n as) : Snd CX G Φ n (.or as) := by
  refine sndT _ _ (fun N k e => match e with | .BoolOp .Or es _ => !es.isEmpty && (ck G N n as).es k es | _ => false) rfl (fun N => rfl) fun {N E k X x} o hN hx => ?_
  split at hx
  · simp only [Bool.and_eq_true] at hx
    have ne : ∀ {es : List Expr}, (!es.isEmpty) = true → es ≠ [] := fun h e => by subst e; cases h
    exact ⟨ha.or o hN hx.2 (ne hx.1), (ha.ort o hN hx.2 (ne hx.1)).pt⟩
  · cases hx
theorem snd_frz {a : CE} (ha : Snd CX G Φ n a) : Snd CX G Φ n (.frz a) := by
  refine sndE _ _ rfl (fun N => rfl) (fun N k x hx => by simp only [Bool.and_eq_true] at hx; exact hx.1) fun {N E k X x} o hN hx => ?_
  simp only [Bool.and_eq_true] at hx
  refine PE.imp (ha.e o hN hx.2) fun σ H Q q => ?_
  obtain ⟨hh, ρ, S, Q0, Y, s, q, kv, kx⟩ := q
  refine ⟨hh, ρ, S, _, Y, s, q, fun w S1 v H1 s1 e1 r1 q1 => ?_, kx⟩
  obtain ⟨p, ws, rfl, hp, q1⟩ := q1
  cases r1
  obtain ⟨u, hu, vs, rfl, r⟩ := s1.sto.at' p _ hp
  have hf : fz (sdel S1 p) H1 p = some (.lst vs) := by rw [fz_none sdel_same]; exact hu
  have nh : (⟨X.K, hh⟩ : KH).h p = false := by
    cases e : (⟨X.K, hh⟩ : KH).h p with
    | false => rfl
    | true =>
      have := (s1.sto.hid p e).1
      rw [hp] at this; cases this
  exact kv _ _ _ _ (s1.to same_del s1.sto.del) (e1.trans same_del) (.lst nh (.inl hf) (r.mono same_del)) q1
/-! ### calls -/
theorem any_of {pos : Pos} {env : PySem.Env} : ∀ {xs : List Expr}, xs.all notStar = true → (backTo pos (starEach xs env)).any (·.1) = false
  | [], _ => rfl
  | x :: xs, h => by
    rw [List.all_cons, Bool.and_eq_true] at h
    rw [star_of h.1]
    show ((false || (backTo pos (starEach xs env)).any (·.1)) = false)
    rw [any_of h.2]
    rfl
theorem all_of {pos : Pos} {env : PySem.Env} : ∀ {xs : List Expr}, xs.all notStar = true → (backTo pos (starEach xs env)).all (fun x => !x.1) = true
  | [], _ => rfl
  | x :: xs, h => by
    rw [List.all_cons, Bool.and_eq_true] at h
    rw [star_of h.1]
    show ((true && (backTo pos (starEach xs env)).all (fun x => !x.1)) = true)
    rw [all_of h.2]
    rfl
theorem es_nil {N : List Str} {k : Sk} {as : CE} (h : (ck G N n as).es k [] = true) : as = .nil := by
  cases as <;> first | rfl | cases h
theorem snd_call {f : Nat} {as : CE} (ha : Snd CX G Φ n as) : Snd CX G Φ n (.call f as) := by
  refine sndE _ (fun N k e => match e with
    | .Call (.Name x _) es [] _ => decide (G.fns[f]? = some (x, es.length)) && decide (f < n) && glC k.sc x && okN x && (ck G N n as).es k es
    | _ => false) rfl (fun N => rfl) (fun N k x hx => ?_) fun {N E k X x} o hN hx => ?_
  · split at hx
    · rfl
    · cases hx
  · split at hx
    · rename_i y p es pos
      simp only [Bool.and_eq_true] at hx
      obtain ⟨⟨⟨⟨h1, h2⟩, h3⟩, h4⟩, h5⟩ := hx
      have hl := of_decide_eq_true h2
      obtain ⟨fa, fd, ps, hm, hk, hp, hb, F⟩ := o.g.fns f y es.length (of_decide_eq_true h1) hl
      have hr : Room (f + 1) X.A := o.room.mono hl
      have run : ∀ (σ : L2.St) (H : Hp) (Q : VK), tOf ⟨X.K, E⟩ (wp Φ (.call f as)).e σ H Q → tOfA ⟨X.K, E⟩ (wp Φ as).es σ H (fun vs H1 => spOf X.K (Φ f) vs H1 Q (E σ)) := fun σ H Q q => by
        obtain ⟨hh, ρ, S, Q0, Y, s, q, kv, kx⟩ := q
        refine ⟨hh, ρ, S, _, Y, s, q, fun ws S1 vs H1 s1 e1 r1 q1 => ?_, kx⟩
        exact ⟨hh, ws, S1, Q0, Y, r1, s1.sto, q1, fun w S2 v H2 s2 e2 r2 q2 => kv _ _ _ _ (s1.to e2 s2) (e1.trans e2) r2 q2, kx.to e1⟩
      cases es with
      | nil =>
        obtain rfl := es_nil h5
        refine ⟨fun pins s σ H Q I h => ?_⟩
        refine wpAny_Call_Name_kw (ld_glob I (gl_of o h3) hm ?_ (ok_dbg h4).1)
        obtain ⟨hh, ρ, S, Q0, Y, s, q, kv, kx⟩ := run σ H Q h
        exact PySem.W.callWith_K0 I.kIn hk (run_fnS (us := []) F hr hb (o.pass σ) I .nil (kv [] S [] H s (Same.refl _) .nil q))
      | cons e es =>
        have hs := ha.ns h5
        rw [List.all_cons, Bool.and_eq_true] at hs
        exact PE.imp (pe_callS F hr (gl_of o h3) hm hk hb o.pass (ha.es o hN h5) (ok_dbg h4).1 (star_of hs.1) (any_of hs.2)) fun σ H Q q => run σ H Q q
    · cases hx
theorem snd_blt {b : Blt} {live : Bool} {as : CE} (ha : Snd CX G Φ n as) : Snd CX G Φ n (.blt b live as) := by
  refine sndE _ (fun N k e => match e with
    | .Call (.Name x _) es [] _ => decide (x = b.nm) && !es.isEmpty && glC k.sc x && (ck G N n as).es k es
    | _ => false) rfl (fun N => rfl) (fun N k x hx => ?_) fun {N E k X x} o hN hx => ?_
  · split at hx
    · rfl
    · cases hx
  · split at hx
    · rename_i y p es pos
      simp only [Bool.and_eq_true] at hx
      obtain ⟨⟨⟨h1, h2⟩, h3⟩, h5⟩ := hx
      obtain rfl := of_decide_eq_true h1
      cases es with
      | nil => cases h2
      | cons e es =>
        have hs := ha.ns h5
        rw [List.all_cons, Bool.and_eq_true] at hs
        have d := ok_dbg (blt_okN b)
        have R := call_blt (X := X) o.calm (by have := o.room.un; omega) b
        have run : ∀ (σ : L2.St) (H : Hp) (Q : VK), tOf ⟨X.K, E⟩ (wp Φ (.blt b live as)).e σ H Q → tCB (rBlt X.K b) (tOfA ⟨X.K, E⟩ (wp Φ as).es) σ H Q := fun σ H Q q => by
          obtain ⟨hh, ρ, S, Q0, Y, s, q, kv, kx⟩ := q
          refine ⟨hh, ρ, S, _, Y, s, q, fun ws S1 vs H1 s1 e1 r1 q1 => ?_, kx⟩
          exact blts (C := (⟨X.K, E⟩ : Ct0).at hh) b s1 r1 q1 (kv.to e1)
        have hv := blt_boot b
        have hm := o.g.blt b
        have hB : ∀ id, b.val = .builtin id → PE X (.Call (.Name b.nm p) (e :: es) [] pos) (tCB (rBlt X.K b) (tOfA ⟨X.K, E⟩ (wp Φ as).es)) := fun id he => by
          rw [he] at R hv
          exact pe_callB R (gl_of o h3) hm hv (ha.es o hN h5) d.2.2 d.1 (star_of hs.1) (any_of hs.2)
        have hT : ∀ id, b.val = .type id → PE X (.Call (.Name b.nm p) (e :: es) [] pos) (tCB (rBlt X.K b) (tOfA ⟨X.K, E⟩ (wp Φ as).es)) := fun id he => by
          rw [he] at R hv
          exact pe_callTy R (gl_of o h3) hm hv (ha.es o hN h5) d.2.2 d.1 (star_of hs.1) (any_of hs.2)
        refine PE.imp ?_ run
        cases b <;> first | exact hB _ rfl | exact hT _ rfl
    · cases hx
theorem snd_mth {m : Mth} {a as : CE} (ho : Snd CX G Φ n a) (ha : Snd CX G Φ n as) : Snd CX G Φ n (.mth m a as) := by
  refine sndE _ (fun N k e => match e with
    | .Call (.Attribute x y apos) es [] cpos => decide (y = m.nm) && (apos.endLine == cpos.line) && decide (es.length < 30) && notCall0 x && (ck G N n a).e k x && (ck G N n as).es k es
    | _ => false) rfl (fun N => rfl) (fun N k x hx => ?_) fun {N E k X x} o hN hx => ?_
  · split at hx
    · rfl
    · cases hx
  · split at hx
    · rename_i x y apos es cpos
      simp only [Bool.and_eq_true] at hx
      obtain ⟨⟨⟨⟨⟨h1, h2⟩, h3⟩, h4⟩, h5⟩, h6⟩ := hx
      obtain rfl := of_decide_eq_true h1
      have hl := of_decide_eq_true h3
      cases es with
      | nil =>
        obtain rfl := es_nil h6
        refine PE.imp (pe_bm0 m.plain m.slot m.type (mt_all (units_of o.room) m) (ho.e o hN h5) (base_of h4) h2) fun σ H Q q => ?_
        obtain ⟨hh, ρ, S, Q0, Y, s, q, kv, kx⟩ := q
        refine ⟨hh, ρ, S, _, Y, s, q, fun w S1 v H1 s1 e1 r1 q1 => ?_, kx⟩
        exact ⟨rcvs (C := (⟨X.K, E⟩ : Ct0).at hh) s1.sto r1 q1.1, mths (C := (⟨X.K, E⟩ : Ct0).at hh) m s1 r1 .nil q1.2 (kv.to e1)⟩
      | cons e es =>
        have hs := ha.ns h6
        have hs' := hs
        rw [List.all_cons, Bool.and_eq_true] at hs
        refine PE.imp (pe_bm m.plain m.slot m.type (mt_all (units_of o.room) m) (ho.e o hN h5) (ha.es o hN h6) (base_of h4) ?_ h2 (star_of hs.1) (any_of hs.2)) fun σ H Q q => ?_
        · rw [all_of hs']
          simp only [Bool.true_and, Bool.and_eq_true, decide_eq_true_eq]
          exact ⟨rfl, by simpa using hl⟩
        · obtain ⟨hh, ρ, S, Q0, Y, s, q, kv, kx⟩ := q
          refine ⟨hh, ρ, S, _, Y, s, q, fun w S1 v H1 s1 e1 r1 q1 => ⟨rcvs (C := (⟨X.K, E⟩ : Ct0).at hh) s1.sto r1 q1.1, hh, ρ, S1, _, Y, s1, q1.2, fun ws S2 vs H2 s2 e2 r2 q2 => ?_, kx.to e1⟩, kx⟩
          exact mths (C := (⟨X.K, E⟩ : Ct0).at hh) m s2 (r1.mono e2) r2 q2 (kv.to (e1.trans e2))
    · cases hx
/-! ### subscripts, displays -/
theorem snd_idx {a b : CE} (ha : Snd CX G Φ n a) (hb : Snd CX G Φ n b) : Snd CX G Φ n (.idx a b) := by
  refine sndE _ (fun N k e => match e with | .Subscript v s _ => notSlice s && (ck G N n a).e k v && (ck G N n b).e k s | _ => false) rfl (fun N => rfl) (fun N k x hx => by cases x <;> first | rfl | cases hx) fun {N E k X x} o hN hx => ?_
  cases x with
  | Subscript v s pos =>
    simp only [Bool.and_eq_true] at hx
    obtain ⟨⟨h1, h2⟩, h3⟩ := hx
    exact PE.imp (pe_ix (ix_all (by have := units_of o.room; omega)) (ha.e o hN h2) (hb.e o hN h3) (plain_of h1)) fun σ H Q q => tOf_op (fun h => ops_idx) q
  | _ => cases hx
theorem snd_slc {live : Bool} {a lo hi : CE} (ha : Snd CX G Φ n a) (hl : Snd CX G Φ n lo) (hh : Snd CX G Φ n hi) : Snd CX G Φ n (.slc live a lo hi) := by
  refine sndE _ (fun N k e => match e with | .Subscript v (.Slice l u none _) _ => (ck G N n a).e k v && (ck G N n lo).o k l && (ck G N n hi).o k u | _ => false) rfl (fun N => rfl) (fun N k x hx => ?_) fun {N E k X x} o hN hx => ?_
  · split at hx
    · rfl
    · cases hx
  · split at hx
    · simp only [Bool.and_eq_true] at hx
      refine PE.imp (pe_slice sl_all (ha.e o hN hx.1.1) (hl.o o hN hx.1.2) (hh.o o hN hx.2)) fun σ H Q q => ?_
      obtain ⟨h, ρ, S, Q0, Y, s, q, kv, kx⟩ := q
      refine ⟨h, ρ, S, _, Y, s, q, fun w S1 v H1 s1 e1 r1 q1 => ⟨h, ρ, S1, _, Y, s1, q1, fun l S2 H2 s2 e2 q2 => ⟨h, ρ, S2, _, Y, s2, q2, fun u S3 H3 s3 e3 q3 => ?_, kx.to (e1.trans e2)⟩, kx.to e1⟩, kx⟩
      exact slcs (C := (⟨X.K, E⟩ : Ct0).at h) s3 (r1.mono (e2.trans e3)) q3 (kv.to ((e1.trans e2).trans e3))
    · cases hx
theorem snd_rev {live : Bool} {a : CE} (ha : Snd CX G Φ n a) : Snd CX G Φ n (.rev live a) := by
  refine sndE _ (fun N k e => match e with | .Subscript v (.Slice none none (some (.UnaryOp .USub (.Constant (.int 1) _ _) _)) _) _ => (ck G N n a).e k v | _ => false) rfl (fun N => rfl) (fun N k x hx => ?_) fun {N E k X x} o hN hx => ?_
  · split at hx
    · rfl
    · cases hx
  · split at hx
    · refine PE.imp (pe_revL (ha.e o hN hx)) fun σ H Q q => ?_
      obtain ⟨h, ρ, S, Q0, Y, s, q, kv, kx⟩ := q
      refine ⟨h, ρ, S, _, Y, s, q, fun w S1 v H1 s1 e1 r1 q1 => ?_, kx⟩
      obtain ⟨ws, hw, q1⟩ := q1
      obtain ⟨a, vs, rfl, ha, ra⟩ := rdL_sq s1.sto r1 hw
      exact ⟨a, vs, rfl, ha.sq, (kv.to e1).newLst s1 ra.reverse q1⟩
    · cases hx
theorem snd_tup {as : CE} (ha : Snd CX G Φ n as) : Snd CX G Φ n (.tup as) := by
  refine sndE _ (fun N k e => match e with | .Tuple es _ _ => (ck G N n as).es k es | _ => false) rfl (fun N => rfl) (fun N k x hx => by cases x <;> first | rfl | cases hx) fun {N E k X x} o hN hx => ?_
  cases x with
  | Tuple es j pos =>
    refine PE.imp (pe_tup (ha.es o hN hx)) fun σ H Q q => ?_
    obtain ⟨h, ρ, S, Q0, Y, s, q, kv, kx⟩ := q
    refine ⟨h, ρ, S, _, Y, s, q, fun ws S1 vs H1 s1 e1 r1 q1 => ?_, kx⟩
    exact ⟨by rw [← r1.length]; exact q1.1, (kv.to e1).newTup s1 r1 q1.2⟩
  | _ => cases hx
theorem snd_lst {live : Bool} {as : CE} (ha : Snd CX G Φ n as) : Snd CX G Φ n (.lst live as) := by
  refine sndE _ (fun N k e => match e with | .List es _ => (ck G N n as).es k es | _ => false) rfl (fun N => rfl) (fun N k x hx => by cases x <;> first | rfl | cases hx) fun {N E k X x} o hN hx => ?_
  cases x with
  | List es pos =>
    refine PE.imp (pe_lst (ha.es o hN hx)) fun σ H Q q => ?_
    obtain ⟨h, ρ, S, Q0, Y, s, q, kv, kx⟩ := q
    refine ⟨h, ρ, S, _, Y, s, q, fun ws S1 vs H1 s1 e1 r1 q1 => ?_, kx⟩
    exact ⟨by rw [← r1.length]; exact q1.1, (kv.to e1).newLst s1 r1 q1.2⟩
  | _ => cases hx
end
end MP

set_option Elab.async false
set_option linter.all false
set_option maxRecDepth 100000
set_option maxHeartbeats 4000000
/-! MP10: expressions, the rest: lists of them, displays, targets, what is walked, comprehensions. -/
namespace MP
open PySem PySem.Spec PyProof.Rows L2

section
variable {CX : CXT} {G : Gv} {Φ : Nat → Spec} {n : Nat}
theorem snd_ife {t a b : CE} (ht : Snd CX G Φ n t) (ha : Snd CX G Φ n a) (hb : Snd CX G Φ n b) : Snd CX G Φ n (.ife t a b) := by
  refine ⟨fun {N E k X x} o hN hx => ?_, fun {N E k X x} x' hN hx => ?_, fun {N E k X x} x' hN hx => ?_, fun {N E k X x p} x' hN hx => ?_, fun {N E k X x p} x' hN hx => ?_, fun {N E k X x p} x' hN hx => ?_, fun {N E k X x p} x' hN hx => ?_,
    fun {N k x} hx => ?_, fun {N k x} hx => ?_, fun {N E k X x} x' hN hx => ?_, fun {N E k X x} x' hN hx => ?_, fun {N E k X x} x' hN hx => ?_, fun {N E k X x} x' hN hx => ?_, fun {N E k X t x} x' hN hx => ?_⟩
  · cases x with
    | IfExp c y z pos =>
      have hx' : ((ck G N n t).e k c && (ck G N n a).e k y && (ck G N n b).e k z) = true := hx
      simp only [Bool.and_eq_true] at hx'
      refine PE.imp (pe_ifExp (ht.t o hN hx'.1.1) (ha.e o hN hx'.1.2) (hb.e o hN hx'.2)) fun σ H Q q => ?_
      obtain ⟨h, ρ, S, Q0, Y, s, q, kv, kx⟩ := q
      refine ⟨h, ρ, S, _, Y, s, q, fun r S1 H1 s1 e1 q1 => ?_, kx⟩
      cases r with
      | true =>
        rw [if_pos rfl] at q1
        exact iteT ⟨h, ρ, S1, _, Y, s1, q1, kv.to e1, kx.to e1⟩
      | false =>
        rw [if_neg Bool.false_ne_true] at q1
        exact iteF ⟨h, ρ, S1, _, Y, s1, q1, kv.to e1, kx.to e1⟩
    | _ => cases hx
  · refine ⟨fun pins s σ H Q I q => ?_⟩
    obtain ⟨h, ρ, S, Q0, Y, s, q, _⟩ := q
    exact q.elim
  all_goals cases hx
/-! ### lists of expressions -/
theorem snd_nil : Snd CX G Φ n .nil := by
  have nl : ∀ {xs : List Expr}, xs.isEmpty = true → xs = [] := fun {xs} h => by cases xs <;> first | rfl | cases h
  refine ⟨fun {N E k X x} o hN hx => ?_, fun {N E k X x} x' hN hx => ?_, fun {N E k X x} o hN hx => ?_, fun {N E k X x p} x' hN hx ne => absurd (nl hx) ne, fun {N E k X x p} x' hN hx ne => absurd (nl hx) ne, fun {N E k X x p} x' hN hx ne => absurd (nl hx) ne,
    fun {N E k X x p} x' hN hx ne => absurd (nl hx) ne,
    fun {N k x} hx => ?_, fun {N k x} hx => ?_, fun {N E k X x} x' hN hx => ?_, fun {N E k X x} x' hN hx => ?_, fun {N E k X x} x' hN hx => ?_, fun {N E k X x} x' hN hx => ?_, fun {N E k X t x} x' hN hx => ?_⟩
  · cases hx
  · cases hx
  · obtain rfl := nl hx
    refine PA.imp pa_nil fun σ H Q q => ?_
    obtain ⟨h, ρ, S, Q0, Y, s, q, kv, kx⟩ := q
    exact kv [] S [] H s (Same.refl _) .nil q
  · obtain rfl := nl hx
    rfl
  · obtain rfl := nl hx
    exact ⟨fun h => (by cases h), fun h => absurd rfl h⟩
  · cases x with
    | none =>
      refine PO.imp po_none fun σ H Q q => ?_
      obtain ⟨h, ρ, S, Q0, Y, s, q, kv, kx⟩ := q
      exact kv none S H s (Same.refl _) q
    | some x => cases hx
  · obtain rfl := nl hx
    refine ⟨fun pins s σ H Q I q => pts_nil.run pins s σ H Q I ?_⟩
    obtain ⟨h, ρ, S, Q0, Y, s, q, kv, kx⟩ := q
    exact kv true S H s (Same.refl _) q
  · cases hx
  · obtain rfl := nl hx
    refine ⟨PGs.imp pgs_nil fun vs σ H Q q => ?_, rfl, rfl⟩
    obtain ⟨h, ws, ρ, S, Q0, s, r, ⟨rfl, q⟩, kv⟩ := q
    cases r
    exact ⟨rfl, kv ρ S σ H s (Same.refl _) Al.refl q⟩
  · cases hx
theorem snd_cons {a as : CE} (ha : Snd CX G Φ n a) (has : Snd CX G Φ n as) : Snd CX G Φ n (.cons a as) := by
  have parts : ∀ {N : List Str} {k : Sk} {xs : List Expr}, (ck G N n (.cons a as)).es k xs = true → ∃ x r, xs = x :: r ∧ notStar x = true ∧ (ck G N n a).e k x = true ∧ (ck G N n as).es k r = true := fun {N k xs} h => by
    cases xs with
    | nil => cases h
    | cons x r =>
      have h' : (notStar x && (ck G N n a).e k x && (ck G N n as).es k r) = true := h
      simp only [Bool.and_eq_true] at h'
      exact ⟨x, r, rfl, h'.1.1, h'.1.2, h'.2⟩
  refine ⟨fun {N E k X x} o hN hx => ?_, fun {N E k X x} x' hN hx => ?_, fun {N E k X x} o hN hx => ?_, fun {N E k X x p} o hN hx ne => ?_, fun {N E k X x p} o hN hx ne => ?_, fun {N E k X x p} o hN hx ne => ?_, fun {N E k X x p} o hN hx ne => ?_,
    fun {N k x} hx => ?_, fun {N k x} hx => ?_, fun {N E k X x} x' hN hx => ?_, fun {N E k X x} o hN hx => ?_, fun {N E k X x} x' hN hx => ?_, fun {N E k X x} o hN hx => ?_, fun {N E k X t x} x' hN hx => ?_⟩
  · cases hx
  · cases hx
  · obtain ⟨x, r, rfl, h1, h2, h3⟩ := parts hx
    refine PA.imp (pa_cons (ha.e o hN h2) (has.es o hN h3) (star_of h1)) fun σ H Q q => ?_
    obtain ⟨h, ρ, S, Q0, Y, s, q, kv, kx⟩ := q
    refine ⟨h, ρ, S, _, Y, s, q, fun w S1 v H1 s1 e1 r1 q1 => ⟨h, ρ, S1, _, Y, s1, q1, fun ws S2 vs H2 s2 e2 r2 q2 => ?_, kx.to e1⟩, kx⟩
    exact kv _ S2 _ H2 s2 (e1.trans e2) (.cons (r1.mono e2) r2) q2
  · obtain ⟨x, r, rfl, h1, h2, h3⟩ := parts hx
    have hm := has.more h3
    cases r with
    | nil =>
      have hf : (wp Φ as).more = false := by
        cases e : (wp Φ as).more with
        | false => rfl
        | true => exact absurd rfl (hm.mp e)
      refine PE.imp (pe_one (ha.e o hN h2)) fun σ H Q q => ?_
      obtain ⟨h, ρ, S, Q0, Y, s, q, kv, kx⟩ := q
      have q' : (if (wp Φ as).more = true then _ else (wp Φ a).e ρ S Q0 Y) := q
      rw [hf, if_neg Bool.false_ne_true] at q'
      exact ⟨h, ρ, S, Q0, Y, s, q', kv, kx⟩
    | cons y r =>
      have ht : (wp Φ as).more = true := hm.mpr (by simp)
      refine PE.imp (pe_andT (ha.e o hN h2) (has.an o hN h3 (by simp))) fun σ H Q q => ?_
      obtain ⟨h, ρ, S, Q0, Y, s, q, kv, kx⟩ := q
      have q' : (if (wp Φ as).more = true then (wp Φ a).e ρ S (fun x S1 => ∃ b, truW S1 x = some b ∧ if b = true then (wp Φ as).an ρ S1 Q0 Y else Q0 x S1) Y else _) := q
      rw [ht, if_pos rfl] at q'
      refine ⟨h, ρ, S, _, Y, s, q', fun w S1 v H1 s1 e1 r1 q1 => ?_, kx⟩
      obtain ⟨b, hb, q1⟩ := q1
      refine ⟨b, truW_v s1.sto r1 hb, ?_⟩
      cases b with
      | true =>
        rw [if_pos rfl] at q1
        exact iteT ⟨h, ρ, S1, _, Y, s1, q1, kv.to e1, kx.to e1⟩
      | false =>
        rw [if_neg Bool.false_ne_true] at q1
        exact iteF ((kv.to e1).give s1 r1 q1)
  · obtain ⟨x, r, rfl, h1, h2, h3⟩ := parts hx
    have hm := has.more h3
    cases r with
    | nil =>
      have hf : (wp Φ as).more = false := by
        cases e : (wp Φ as).more with
        | false => rfl
        | true => exact absurd rfl (hm.mp e)
      refine PE.imp (pe_one (ha.e o hN h2)) fun σ H Q q => ?_
      obtain ⟨h, ρ, S, Q0, Y, s, q, kv, kx⟩ := q
      have q' : (if (wp Φ as).more = true then _ else (wp Φ a).e ρ S Q0 Y) := q
      rw [hf, if_neg Bool.false_ne_true] at q'
      exact ⟨h, ρ, S, Q0, Y, s, q', kv, kx⟩
    | cons y r =>
      have ht : (wp Φ as).more = true := hm.mpr (by simp)
      refine PE.imp (pe_orT (ha.e o hN h2) (has.or o hN h3 (by simp))) fun σ H Q q => ?_
      obtain ⟨h, ρ, S, Q0, Y, s, q, kv, kx⟩ := q
      have q' : (if (wp Φ as).more = true then (wp Φ a).e ρ S (fun x S1 => ∃ b, truW S1 x = some b ∧ if b = true then Q0 x S1 else (wp Φ as).or ρ S1 Q0 Y) Y else _) := q
      rw [ht, if_pos rfl] at q'
      refine ⟨h, ρ, S, _, Y, s, q', fun w S1 v H1 s1 e1 r1 q1 => ?_, kx⟩
      obtain ⟨b, hb, q1⟩ := q1
      refine ⟨b, truW_v s1.sto r1 hb, ?_⟩
      cases b with
      | true =>
        rw [if_pos rfl] at q1
        exact iteT ((kv.to e1).give s1 r1 q1)
      | false =>
        rw [if_neg Bool.false_ne_true] at q1
        exact iteF ⟨h, ρ, S1, _, Y, s1, q1, kv.to e1, kx.to e1⟩
  · obtain ⟨x, r, rfl, h1, h2, h3⟩ := parts hx
    have hm := has.more h3
    cases r with
    | nil =>
      have hf : (wp Φ as).more = false := by
        cases e : (wp Φ as).more with
        | false => rfl
        | true => exact absurd rfl (hm.mp e)
      refine PW.imp (pw_and1 (ha.t o hN h2)) fun σ H Q q => ?_
      obtain ⟨h, ρ, S, Q0, Y, s, q, kv, kx⟩ := q
      have q' : (if (wp Φ as).more = true then _ else (wp Φ a).t ρ S Q0 Y) := q
      rw [hf, if_neg Bool.false_ne_true] at q'
      exact ⟨h, ρ, S, Q0, Y, s, q', kv, kx⟩
    | cons y r =>
      have ht : (wp Φ as).more = true := hm.mpr (by simp)
      refine PW.imp (pw_and (ha.t o hN h2) (has.ant o hN h3 (by simp))) fun σ H Q q => ?_
      obtain ⟨h, ρ, S, Q0, Y, s, q, kv, kx⟩ := q
      have q' : (if (wp Φ as).more = true then (wp Φ a).t ρ S (fun b S1 => if b = true then (wp Φ as).ant ρ S1 Q0 Y else Q0 false S1) Y else _) := q
      rw [ht, if_pos rfl] at q'
      refine ⟨h, ρ, S, _, Y, s, q', fun b S1 H1 s1 e1 q1 => ?_, kx⟩
      cases b with
      | true =>
        rw [if_pos rfl] at q1
        exact iteT ⟨h, ρ, S1, _, Y, s1, q1, fun b S2 H2 s2 e2 => kv b S2 H2 s2 (e1.trans e2), kx.to e1⟩
      | false =>
        rw [if_neg Bool.false_ne_true] at q1
        exact iteF (kv _ S1 H1 s1 e1 q1)
  · obtain ⟨x, r, rfl, h1, h2, h3⟩ := parts hx
    have hm := has.more h3
    cases r with
    | nil =>
      have hf : (wp Φ as).more = false := by
        cases e : (wp Φ as).more with
        | false => rfl
        | true => exact absurd rfl (hm.mp e)
      refine PW.imp (pw_or1 (ha.t o hN h2)) fun σ H Q q => ?_
      obtain ⟨h, ρ, S, Q0, Y, s, q, kv, kx⟩ := q
      have q' : (if (wp Φ as).more = true then _ else (wp Φ a).t ρ S Q0 Y) := q
      rw [hf, if_neg Bool.false_ne_true] at q'
      exact ⟨h, ρ, S, Q0, Y, s, q', kv, kx⟩
    | cons y r =>
      have ht : (wp Φ as).more = true := hm.mpr (by simp)
      refine PW.imp (pw_or (ha.t o hN h2) (has.ort o hN h3 (by simp))) fun σ H Q q => ?_
      obtain ⟨h, ρ, S, Q0, Y, s, q, kv, kx⟩ := q
      have q' : (if (wp Φ as).more = true then (wp Φ a).t ρ S (fun b S1 => if b = true then Q0 true S1 else (wp Φ as).ort ρ S1 Q0 Y) Y else _) := q
      rw [ht, if_pos rfl] at q'
      refine ⟨h, ρ, S, _, Y, s, q', fun b S1 H1 s1 e1 q1 => ?_, kx⟩
      cases b with
      | true =>
        rw [if_pos rfl] at q1
        exact iteT (kv _ S1 H1 s1 e1 q1)
      | false =>
        rw [if_neg Bool.false_ne_true] at q1
        exact iteF ⟨h, ρ, S1, _, Y, s1, q1, fun b S2 H2 s2 e2 => kv b S2 H2 s2 (e1.trans e2), kx.to e1⟩
  · obtain ⟨x, r, rfl, h1, h2, h3⟩ := parts hx
    rw [List.all_cons, h1, has.ns h3]
    rfl
  · obtain ⟨x, r, rfl, h1, h2, h3⟩ := parts hx
    exact ⟨fun _ => by simp, fun _ => rfl⟩
  · cases hx
  · cases x with
    | nil => cases hx
    | cons y r =>
      cases r with
      | nil =>
        refine ⟨fun pins s σ H Q I q => (pts_one (ha.t o hN hx)).run pins s σ H Q I ?_⟩
        obtain ⟨h, ρ, S, Q0, Y, s, q, kv, kx⟩ := q
        exact ⟨h, ρ, S, Q0, XN, s, q, kv, XCk.no⟩
      | cons z r => cases hx
  · cases hx
  · cases x with
    | nil => cases hx
    | cons y r =>
      have h' : (notStar y && (ck G N n a).g k y && (ck G N n as).gs k r) = true := hx
      simp only [Bool.and_eq_true] at h'
      obtain ⟨⟨h1, h2⟩, h3⟩ := h'
      obtain ⟨p1, p2, p3⟩ := has.gs o hN h3
      have hs := asg_of (es := r) (env := X.env) h1
      refine ⟨PGs.imp (pgs_cons (ha.g o hN h2) p1 (by rw [hs]; rfl)) fun vs σ H Q q => ?_, by rw [hs, List.length_cons, List.length_cons, p2], by rw [hs, List.findIdx?_cons, p3]; rfl⟩
      obtain ⟨h, ws, ρ, S, Q0, s, rr, ⟨w, ws', rfl, q⟩, kv⟩ := q
      obtain _ | ⟨r1, r2⟩ := rr
      refine ⟨_, _, rfl, h, w, ρ, S, _, s, r1, q, fun ρ1 S1 σ1 H1 s1 e1 al1 q1 => ⟨h, ws', ρ1, S1, _, s1, r2.mono e1, q1, fun ρ2 S2 σ2 H2 s2 e2 al2 q2 => ?_⟩⟩
      exact kv ρ2 S2 σ2 H2 s2 (e1.trans e2) ((al1.mono fun j hj => List.mem_append_left _ hj).trans (al2.mono fun j hj => List.mem_append_right _ hj)) q2
  · cases hx
/-! ### targets -/
theorem snd_tnm (i : Nat) : Snd CX G Φ n (.tnm i) := by
  refine sndO (fun _ _ _ => rfl) (fun _ _ _ => rfl) (fun _ _ _ => rfl) (fun _ _ _ => rfl) (fun _ _ _ => rfl) (fun {N E k X x} o hN hx => ?_) (fun {N E k X t x} o hN hx => by cases hx)
  cases x with
  | Name y p =>
    have hx' : (decide (N[i]? = some y) && stoC k y && okN y) = true := hx
    simp only [Bool.and_eq_true] at hx'
    obtain ⟨⟨h1, h2⟩, h3⟩ := hx'
    have l := loc_of o h2
    refine PG.imp (pg_name (i := i) o.nd (by rw [hN]; exact of_decide_eq_true h1) l.1 l.2) fun v σ H Q q => ?_
    obtain ⟨h, w, ρ, S, Q0, s, r, q, kv⟩ := q
    exact kv _ S _ H (s.set r) (Same.refl _) Al.set q
  | _ => cases hx
theorem cnt_gs : ∀ (c : CE) {N : List Str} {k : Sk} {xs : List Expr}, (ck G N n c).gs k xs = true → xs.length = cntC c
  | .nil, N, k, xs, h => by
    have h' : xs.isEmpty = true := h
    cases xs <;> first | rfl | cases h'
  | .cons a as, N, k, xs, h => by
    cases xs with
    | nil => cases h
    | cons y r =>
      have h' : (notStar y && (ck G N n a).g k y && (ck G N n as).gs k r) = true := h
      simp only [Bool.and_eq_true] at h'
      show r.length + 1 = cntC as + 1
      rw [cnt_gs as h'.2]
  | .var _, _, _, _, h | .cst _, _, _, _, h | .glb _ _, _, _, _, h | .bin _ _ _ _, _, _, _, h | .neg _, _, _, _, h | .nt _, _, _, _, h | .cmp _ _ _, _, _, _, h | .chain _ _ _ _ _, _, _, _, h => by cases h
  | .an _, _, _, _, h | .or _, _, _, _, h | .ife _ _ _, _, _, _, h | .call _ _, _, _, _, h | .blt _ _ _, _, _, _, h | .mth _ _ _, _, _, _, h | .idx _ _, _, _, _, h | .slc _ _ _ _, _, _, _, h => by cases h
  | .rev _ _, _, _, _, h | .tup _, _, _, _, h | .lst _ _, _, _, _, h | .dnew _, _, _, _, h | .dct _, _, _, _, h | .lc _ _ _ _ _ _, _, _, _, h | .frz _, _, _, _, h | .isi _ _, _, _, _, h | .lrg _ _, _, _, _, h | .tnm _, _, _, _, h | .ttup _, _, _, _, h | .tsub _ _, _, _, _, h => by cases h
  | .iseq _, _, _, _, h | .irng1 _, _, _, _, h | .irng2 _ _, _, _, _, h | .irng3 _ _ _, _, _, _, h | .izip _ _, _, _, _, h | .ienm _, _, _, _, h => by cases h
theorem pg_or {X : Cx} {e : Expr} {t u : TG} (h : PG X e t) (h' : PG X e u) : PG X e fun v σ H Q => t v σ H Q ∨ u v σ H Q :=
  ⟨fun pins s σ H v w Q I r q => q.elim (h.run pins s σ H v w Q I r) (h'.run pins s σ H v w Q I r)⟩
theorem snd_ttup {ts : CE} (ht : Snd CX G Φ n ts) : Snd CX G Φ n (.ttup ts) := by
  refine sndO (fun _ _ _ => rfl) (fun _ _ _ => rfl) (fun _ _ _ => rfl) (fun _ _ _ => rfl) (fun _ _ _ => rfl) (fun {N E k X x} o hN hx => ?_) (fun {N E k X t x} o hN hx => by cases hx)
  cases x with
  | Tuple es j p =>
    have hx' : (ck G N n ts).gs k es = true := hx
    obtain ⟨p1, p2, p3⟩ := ht.gs o hN hx'
    have c1 := pg_tup (n := cntC ts) (k := j) (pos := p) o.calm p1 (by rw [p2]; exact cnt_gs ts hx') p3
    have c2 := pg_unl (n := cntC ts) (k := j) (pos := p) o.calm p1 (by rw [p2]; exact cnt_gs ts hx') p3
    refine PG.imp (pg_or c1 c2) fun v σ H Q q => ?_
    obtain ⟨h, w, ρ, S, Q0, s, r, ⟨ws, hw, hl, q⟩, kv⟩ := q
    obtain ⟨a, vs, rfl, ha, ra⟩ := rdQ_sq s.sto r hw
    rcases ha with ha | ha
    · exact .inr ⟨a, vs, rfl, ha, by rw [← ra.length, hl], h, ws, ρ, S, Q0, s, ra, q, kv⟩
    · exact .inl ⟨a, vs, rfl, ha, by rw [← ra.length, hl], h, ws, ρ, S, Q0, s, ra, q, kv⟩
  | _ => cases hx
theorem snd_tsub {a i : CE} (ha : Snd CX G Φ n a) (hi : Snd CX G Φ n i) : Snd CX G Φ n (.tsub a i) := by
  refine sndO (fun _ _ _ => rfl) (fun _ _ _ => rfl) (fun _ _ _ => rfl) (fun _ _ _ => rfl) (fun _ _ _ => rfl) (fun {N E k X x} o hN hx => ?_) (fun {N E k X t x} o hN hx => by cases hx)
  cases x with
  | Subscript y z p =>
    have hx' : (notSlice z && (ck G N n a).e k y && (ck G N n i).e k z) = true := hx
    simp only [Bool.and_eq_true] at hx'
    obtain ⟨⟨h1, h2⟩, h3⟩ := hx'
    have hu : X.A.units + 1 < cLine := by have := units_of o.room; omega
    refine PG.imp (pg_sub (ha.e o hN h2) (hi.e o hN h3) (set_all hu) (fun v => by cases z <;> first | rfl | cases h1)) fun v σ H Q q => ?_
    obtain ⟨h, w, ρ, S, Q0, s, r, q, kv⟩ := q
    refine ⟨h, ρ, S, _, XN, s, q, fun x S1 vx H1 s1 e1 r1 q1 => ⟨h, ρ, S1, _, XN, s1, q1, fun y S2 vy H2 s2 e2 r2 q2 => ?_, XCk.no⟩, XCk.no⟩
    exact sets (C := (⟨X.K, E⟩ : Ct0).at h) s2 (r1.mono e2) r2 (r.mono (e1.trans e2)) q2 fun S3 H3 s3 e3 q3 => kv ρ S3 σ H3 s3 ((e1.trans e2).trans e3) Al.refl q3
  | _ => cases hx
/-! ### what is walked -/
theorem snd_iseq {a : CE} (ha : Snd CX G Φ n a) : Snd CX G Φ n (.iseq a) := by
  refine sndO (fun _ _ _ => rfl) (fun _ _ _ => rfl) (fun _ _ _ => rfl) (fun _ _ _ => rfl) (fun _ _ _ => rfl) (fun {N E k X x} o hN hx => by cases hx) (fun {N E k X t x} o hN hx => ?_)
  have hx' : (notSet x && (ck G N n a).e k x) = true := hx
  simp only [Bool.and_eq_true] at hx'
  exact PI.imp (pi_seq (ha.e o hN hx'.2)) fun σ H R q => imp_seq q
theorem snd_irng1 {a : CE} (ha : Snd CX G Φ n a) : Snd CX G Φ n (.irng1 a) := by
  refine sndO (fun _ _ _ => rfl) (fun _ _ _ => rfl) (fun _ _ _ => rfl) (fun _ _ _ => rfl) (fun _ _ _ => rfl) (fun {N E k X x} o hN hx => by cases hx) (fun {N E k X t x} o hN hx => ?_)
  simp only [ck] at hx
  split at hx
  · rename_i y p x1 pos
    simp only [Bool.and_eq_true] at hx
    obtain ⟨⟨⟨h1, h2⟩, h3⟩, h4⟩ := hx
    obtain rfl := of_decide_eq_true h1
    have hm := o.g.more.1
    refine PI.imp (pi_range1 (gl_of o h2) hm (pa_cons (ha.e o hN h4) pa_nil (star_of h3)) (star_of h3)) fun σ H R q => ?_
    obtain ⟨h, ρ, S, Q0, Y, s, q, kv, kx⟩ := q
    refine ⟨h, ρ, S, _, Y, s, q, fun w S1 v H1 s1 e1 r1 q1 => ?_, kx⟩
    cases w with
    | int i =>
      cases r1
      exact ⟨_, rfl, q1.1, q1.2.1, kv _ _ _ _ _ s1 e1 (fun _ _ => itok_range) q1.2.2⟩
    | _ => exact (show False from q1).elim
  · cases hx
theorem snd_irng2 {a b : CE} (ha : Snd CX G Φ n a) (hb : Snd CX G Φ n b) : Snd CX G Φ n (.irng2 a b) := by
  refine sndO (fun _ _ _ => rfl) (fun _ _ _ => rfl) (fun _ _ _ => rfl) (fun _ _ _ => rfl) (fun _ _ _ => rfl) (fun {N E k X x} o hN hx => by cases hx) (fun {N E k X t x} o hN hx => ?_)
  simp only [ck] at hx
  split at hx
  · rename_i y p x1 x2 pos
    simp only [Bool.and_eq_true] at hx
    obtain ⟨⟨⟨⟨⟨h1, h2⟩, h3⟩, h3'⟩, h4⟩, h5⟩ := hx
    obtain rfl := of_decide_eq_true h1
    have hm := o.g.more.1
    refine PI.imp (pi_range2 (gl_of o h2) hm (pa_cons (ha.e o hN h4) (pa_cons (hb.e o hN h5) pa_nil (star_of h3')) (star_of h3)) (by rw [star_of h3, star_of h3']; rfl) (star_of h3')) fun σ H R q => ?_
    obtain ⟨h, ρ, S, Q0, Y, s, q, kv, kx⟩ := q
    refine ⟨h, ρ, S, _, Y, s, q, fun w S1 v H1 s1 e1 r1 q1 => ⟨h, ρ, S1, _, Y, s1, q1, fun w2 S2 v2 H2 s2 e2 r2 q2 => ?_, kx.to e1⟩, kx⟩
    cases w with
    | int i =>
      cases w2 with
      | int j =>
        cases r1; cases r2
        exact ⟨_, _, rfl, q2.1, kv _ _ _ _ _ s2 (e1.trans e2) (fun _ _ => itok_range) q2.2⟩
      | _ => exact (show False from q2).elim
    | _ => exact (show False from q2).elim
  · cases hx
theorem snd_irng3 {a b c : CE} (ha : Snd CX G Φ n a) (hb : Snd CX G Φ n b) (hc : Snd CX G Φ n c) : Snd CX G Φ n (.irng3 a b c) := by
  refine sndO (fun _ _ _ => rfl) (fun _ _ _ => rfl) (fun _ _ _ => rfl) (fun _ _ _ => rfl) (fun _ _ _ => rfl) (fun {N E k X x} o hN hx => by cases hx) (fun {N E k X t x} o hN hx => ?_)
  simp only [ck] at hx
  split at hx
  · rename_i y p x1 x2 x3 pos
    simp only [Bool.and_eq_true] at hx
    obtain ⟨⟨⟨⟨⟨⟨⟨h1, h2⟩, h3⟩, h3'⟩, h3''⟩, h4⟩, h5⟩, h6⟩ := hx
    obtain rfl := of_decide_eq_true h1
    have hm := o.g.more.1
    refine PI.imp (pi_range3 (gl_of o h2) hm (pa_cons (ha.e o hN h4) (pa_cons (hb.e o hN h5) (pa_cons (hc.e o hN h6) pa_nil (star_of h3'')) (star_of h3')) (star_of h3)) (star_of h3) (by rw [star_of h3', star_of h3'']; rfl)) fun σ H R q => ?_
    obtain ⟨h, ρ, S, Q0, Y, s, q, kv, kx⟩ := q
    refine ⟨h, ρ, S, _, Y, s, q, fun w S1 v H1 s1 e1 r1 q1 => ⟨h, ρ, S1, _, Y, s1, q1, fun w2 S2 v2 H2 s2 e2 r2 q2 => ⟨h, ρ, S2, _, Y, s2, q2, fun w3 S3 v3 H3 s3 e3 r3 q3 => ?_, kx.to (e1.trans e2)⟩, kx.to e1⟩, kx⟩
    cases w with
    | int i =>
      cases w2 with
      | int j =>
        cases w3 with
        | int c' =>
          obtain ⟨m, hm, q3⟩ := q3
          cases r1; cases r2; cases r3
          exact ⟨_, _, _, m, rfl, hm, kv _ _ _ _ _ s3 ((e1.trans e2).trans e3) (fun _ _ => itok_rangeC) q3⟩
        | _ => exact (show False from q3).elim
      | _ => exact (show False from q3).elim
    | _ => exact (show False from q3).elim
  · cases hx
theorem snd_izip {a b : CE} (ha : Snd CX G Φ n a) (hb : Snd CX G Φ n b) : Snd CX G Φ n (.izip a b) := by
  refine sndO (fun _ _ _ => rfl) (fun _ _ _ => rfl) (fun _ _ _ => rfl) (fun _ _ _ => rfl) (fun _ _ _ => rfl) (fun {N E k X x} o hN hx => by cases hx) (fun {N E k X t x} o hN hx => ?_)
  simp only [ck] at hx
  split at hx
  · rename_i t1 t2 t3 y p x1 x2 pos
    simp only [Bool.and_eq_true] at hx
    obtain ⟨⟨⟨⟨⟨h1, h2⟩, h3⟩, h3'⟩, h4⟩, h5⟩ := hx
    obtain rfl := of_decide_eq_true h1
    have hm := o.g.more.2.1
    refine PI.imp (pi_zip (gl_of o h2) hm (pa_cons (ha.e o hN h4) (pa_cons (hb.e o hN h5) pa_nil (star_of h3')) (star_of h3)) (star_of h3) (by rw [star_of h3']; rfl)) fun σ H R q => ?_
    obtain ⟨h, ρ, S, Q0, Y, s, q, kv, kx⟩ := q
    refine ⟨h, ρ, S, _, Y, s, q, fun w S1 v H1 s1 e1 r1 q1 => ⟨h, ρ, S1, _, Y, s1, q1, fun w2 S2 v2 H2 s2 e2 r2 q2 => ?_, kx.to e1⟩, kx⟩
    obtain ⟨xs, ys, hx1, hy1, q2⟩ := q2
    obtain ⟨a1, us, rfl, b1, c1⟩ := rdL_sq s2.sto (r1.mono e2) hx1
    obtain ⟨a2, vs, rfl, b2, c2⟩ := rdL_sq s2.sto r2 hy1
    exact ⟨a1, a2, us, vs, rfl, b1.sq, b2.sq, kv _ _ _ _ _ s2 (e1.trans e2) (fun h' hh' => itok_zip ((r1.mono e2).agree hh') (r2.agree hh')) q2⟩
  · cases hx
theorem snd_ienm {a : CE} (ha : Snd CX G Φ n a) : Snd CX G Φ n (.ienm a) := by
  refine sndO (fun _ _ _ => rfl) (fun _ _ _ => rfl) (fun _ _ _ => rfl) (fun _ _ _ => rfl) (fun _ _ _ => rfl) (fun {N E k X x} o hN hx => by cases hx) (fun {N E k X t x} o hN hx => ?_)
  simp only [ck] at hx
  split at hx
  · rename_i t1 t2 t3 y p x1 pos
    simp only [Bool.and_eq_true] at hx
    obtain ⟨⟨⟨h1, h2⟩, h3⟩, h4⟩ := hx
    obtain rfl := of_decide_eq_true h1
    have hm := o.g.more.2.2.1
    refine PI.imp (pi_enum (gl_of o h2) hm (pa_cons (ha.e o hN h4) pa_nil (star_of h3)) (star_of h3)) fun σ H R q => ?_
    obtain ⟨h, ρ, S, Q0, Y, s, q, kv, kx⟩ := q
    refine ⟨h, ρ, S, _, Y, s, q, fun w S1 v H1 s1 e1 r1 q1 => ?_, kx⟩
    obtain ⟨xs, hx1, q1⟩ := q1
    obtain ⟨a1, us, rfl, b1, c1⟩ := rdL_sq s1.sto r1 hx1
    exact ⟨a1, us, rfl, b1.sq, kv _ _ _ _ _ s1 e1 (fun h' hh' => itok_enum (r1.agree hh') hx1) q1⟩
  · cases hx
/-! ### comprehensions -/
theorem ok_blk {E : L2.St → XK} {k : Sk} {X : Cx} {scope : Scope} {fp : List Addr} {s : Shared} {H : Hp} {cl : List (Str × Addr)} {C : Addr} (o : XOk CX G Φ n E k X) :
    XOk CX G Φ n (fun _ => E0) ⟨relS scope k.sc, some scope⟩ (X.blk s H scope (compEnvC scope cl C X.env) fp) where
  g := o.g
  calm := o.calm
  nd := o.nd
  room := o.room
  gd := o.gd
  rpn := o.rpn
  sc := by rw [← o.sc]; rfl
  fn := fun x h => by
    show (scope.names.lookup x == some .cell) = true
    rw [h scope rfl]
    rfl
  pass := o.g.e0 _ rfl rfl
  top := fun _ z => by cases z
  tk := fun _ _ _ ⟨_, _, _, _, _, _, _, _, _, _, _, _, _, _, _, _, w⟩ => w.elim
  own := PassesOwn.never
theorem snd_lc {live : Bool} {own : List (Str × Nat)} {tg it cond elt : CE} (h1 : Snd CX G Φ n tg) (h2 : Snd CX G Φ n it) (h3 : Snd CX G Φ n cond) (h4 : Snd CX G Φ n elt) : Snd CX G Φ n (.lc live own tg it cond elt) := by
  refine sndE _ (fun N k e => match e with
    | .ListComp x [⟨t, i, ifs, 0⟩] scope _ => blkC N k.sc scope own && notSet i && (als tg).all (fun j => (own.map (·.2)).contains j) && (ck G N n it).i k t i &&
        (ck G N n tg).g ⟨relS scope k.sc, some scope⟩ t && (ck G N n cond).c ⟨relS scope k.sc, some scope⟩ ifs && (ck G N n elt).e ⟨relS scope k.sc, some scope⟩ x
    | _ => false) rfl (fun _ => rfl) (fun N k x hx => by split at hx <;> first | rfl | cases hx) fun {N E k X x} o hN hx => ?_
  split at hx
  · rename_i x t i ifs scope pos
    simp only [Bool.and_eq_true] at hx
    obtain ⟨⟨⟨⟨⟨⟨a1, a2⟩, a3⟩, a4⟩, a5⟩, a6⟩, a7⟩ := hx
    have ok : BlkOk X.N X.env.scope scope own := by rw [hN, o.sc]; exact blkOk_by a1
    refine PE.imp (pe_lc (g := tOfG ⟨X.K, fun _ => E0⟩ (als tg) (wp Φ tg).g) (tt := tOfT ⟨X.K, fun _ => E0⟩ fun ρ S Q _ => (wp Φ cond).c ρ S Q) (te := tOf ⟨X.K, fun _ => E0⟩ (wp Φ elt).e) o.calm o.nd (h2.i o hN a4) ok (fun s H C cl fp => h1.g (ok_blk o) hN a5) (fun s H C cl fp => h3.cc (ok_blk o) hN a6) (fun s H C cl fp => h4.e (ok_blk o) hN a7) (fold_of a2)) fun σ H Q q => ?_
    exact imp_lc (c := ⟨X.K, E⟩) (c' := ⟨X.K, fun _ => E0⟩) rfl (fun j hj => by simpa using List.all_eq_true.mp a3 j hj) q
  · cases hx
end
end MP

set_option Elab.async false
set_option linter.all false
set_option maxRecDepth 100000
set_option maxHeartbeats 4000000
/-! MP10b: list(zip), slices by a step, sorted(set) of pairs. -/
namespace MP
open PySem PySem.Spec PyProof.Rows L2

theorem pick_one (items : Array Value) : slicePick items none none (some 1) = items.toList.toArray := by
  have e1 : sliceBounds none none (some 1) items.size = (0, (items.size : Int), 1) := by
    first
    | rfl
    | simp [sliceBounds]
  have e2 : sliceRange 0 (items.size : Int) 1 = List.range items.size := by
    unfold sliceRange
    by_cases h : (0 : Int) < (items.size : Int)
    · have e : ((items.size : Int) - 0 + 1 - 1) / 1 = (items.size : Int) := by rw [Int.ediv_one]; omega
      have h1 : (1 : Int) > 0 := by decide
      simp only [h1, h, if_true, e, Int.toNat_natCast]
      have : (List.range items.size).map (fun (k : Nat) => ((0 : Int) + 1 * (k : Int)).toNat) = (List.range items.size).map id := by
        apply List.map_congr_left
        intro k _
        show ((0 : Int) + 1 * (k : Int)).toNat = k
        omega
      rw [this, List.map_id]
    · have e : items.size = 0 := by omega
      rw [e]
      rfl
  unfold slicePick
  rw [e1]
  show ((sliceRange 0 (items.size : Int) 1).filterMap (items[·]?)).toArray = _
  rw [e2, PySem.W.krv_all]
section
variable {X : Cx}
def tStp (K : PySem.W.Frag) (te ts : TE) : TE := fun σ H Q => te σ H fun x H1 => tPart ts σ H1 fun o H2 => ∃ k, o = some k ∧ ∃ a xs, x = .ref a ∧ SqL K H2 a xs ∧
  ((k = 1 ∧ ∀ p, H2 p = none → Q (.ref p) (upd H2 p (.lst xs))) ∨ (k = -1 ∧ ∀ p, H2 p = none → Q (.ref p) (upd H2 p (.lst xs.reverse))))
theorem pe_stp {e st : Expr} {te ts : TE} {p3 pos : Pos} (he : PE X e te) (hs : PE X st ts) : PE X (.Subscript e (.Slice none none (some st) p3) pos) (tStp X.K te ts) := by
  refine ⟨fun pins s σ H Q I h => ?_⟩
  refine Subscript_ (thn (he.run pins s σ H _ I h) fun v s1 ⟨x, H1, I1, r1, q1⟩ => ?_)
  have hst : PO X (some st) (tPart ts) := po_some hs
  refine wpAny_Slice (thn (po_none.run pins s1 σ H1 (fun o H2 => o = none ∧ H2 = H1) I1 ⟨rfl, rfl⟩) fun vl s2 ⟨l, H2, I2, pl, el, e2⟩ => ?_)
  subst el e2
  refine thn (po_none.run pins s2 σ H2 (fun o H3 => o = none ∧ H3 = H2) I2 ⟨rfl, rfl⟩) fun vu s3 ⟨u, H3, I3, pu, eu, e3⟩ => ?_
  subst eu e3
  refine thn (hst.run pins s3 σ H3 _ I3 q1) fun vs s4 ⟨o, H4, I4, ps, k, eo, a, xs, ex, hx, q⟩ => ?_
  subst eo ex
  cases r1
  have I5 : Inv X pins σ H4 { s4 with heap := s4.heap.push { cls := .type "slice", data := .fields #[vl, vu, vs] } } := I4.kept (t' := s4.toks) fun b ob z => Heap.get?_push_of_some _ z
  obtain ⟨its, r, ht, hz⟩ := I5.list hx
  have hlen := r.length
  show wpAny (model X.prog X.w) X.A (subscriptTail e (.Slice none none (some st) p3) (.ref a) (.ref s4.heap.objs.size)) (EP X pins σ Q) X.xe { s4 with heap := s4.heap.push { cls := .type "slice", data := .fields #[vl, vu, vs] } }
  refine tail_any (ops := [.ref a, .ref s4.heap.objs.size]) ht.isList.typeIs (PySem.slot_list_getitem.lookup) ?_ (by with_unfolding_all rfl)
  rcases q with ⟨rfl, q⟩ | ⟨rfl, q⟩
  · refine wpAny_getItem_list_slice ht.isList (Heap.IsSliceOf.new _ vl vu vs) pl pu ps (by decide) ?_ (by rw [List.size_toArray]; omega)
    rw [pick_one]
    exact ⟨.ref _, _, I5.laid (t' := s4.toks) (o := .lst xs) (fun b ob z => Heap.get?_push_of_some _ z) (Nat.le_refl _) ⟨hz, _, 0, r, Heap.get?_push_size _ rfl⟩, rfl, q _ (I5.hok.fresh (Nat.le_refl _))⟩
  · refine wpAny_getItem_list_slice ht.isList (Heap.IsSliceOf.new _ vl vu vs) pl pu ps (by decide) ?_ (by rw [List.size_toArray]; omega)
    rw [PySem.W.krv_pick]
    exact ⟨.ref _, _, I5.laid (t' := s4.toks) (o := .lst xs.reverse) (fun b ob z => Heap.get?_push_of_some _ z) (Nat.le_refl _) ⟨by rw [List.length_reverse]; exact hz, _, 0, r.reverse, Heap.get?_push_size _ rfl⟩, rfl, q _ (I5.hok.fresh (Nat.le_refl _))⟩
end
section
variable {CX : CXT} {G : Gv} {Φ : Nat → Spec} {n : Nat}
theorem snd_lzip {live : Bool} {a b : CE} (ha : Snd CX G Φ n a) (hb : Snd CX G Φ n b) : Snd CX G Φ n (.lzip live a b) := by
  refine sndE _ (fun N k e => match e with
    | .Call (.Name x _) [.Call (.Name y _) [z, w] [] _] [] _ => decide (x = ("list" : Str)) && glC k.sc x && decide (y = ("zip" : Str)) && glC k.sc y && notStar z && notStar w && (ck G N n a).e k z && (ck G N n b).e k w
    | _ => false) rfl (fun N => rfl) (fun N k x hx => ?_) fun {N E k X x} o hN hx => ?_
  · split at hx
    · rfl
    · cases hx
  · split at hx
    · rename_i x p y p2 z w p3 pos
      simp only [Bool.and_eq_true] at hx
      obtain ⟨⟨⟨⟨⟨⟨⟨h1, h2⟩, h3⟩, h4⟩, h5⟩, h5'⟩, h6⟩, h7⟩ := hx
      obtain rfl := of_decide_eq_true h1
      obtain rfl := of_decide_eq_true h3
      refine PE.imp (pe_listZip o.calm (gl_of o h2) (o.g.blt .list) (gl_of o h4) o.g.more.2.1 (pa_cons (ha.e o hN h6) (pa_cons (hb.e o hN h7) pa_nil (star_of h5')) (star_of h5)) (star_of h5) (by rw [star_of h5']; rfl)) fun σ H Q q => ?_
      obtain ⟨h, ρ, S, Q0, Y, s, q, kv, kx⟩ := q
      refine ⟨h, ρ, S, _, Y, s, q, fun w S1 v H1 s1 e1 r1 q1 => ⟨h, ρ, S1, _, Y, s1, q1, fun w2 S2 v2 H2 s2 e2 r2 q2 => ?_, kx.to e1⟩, kx⟩
      obtain ⟨xs, ys, hx1, hy1, q2⟩ := q2
      obtain ⟨a1, us, rfl, b1, c1⟩ := rdL_sq s2.sto (r1.mono e2) hx1
      obtain ⟨a2, vs, rfl, b2, c2⟩ := rdL_sq s2.sto r2 hy1
      refine ⟨a1, a2, us, vs, rfl, b1.sq, b2.sq, fun ts p hl nd hn hp hpt => ?_⟩
      obtain ⟨z1, z2, z3⟩ := zip_new ts s2.sto c1 c2 hl nd hn
      have s3 := s2.to z2 z1
      exact (kv.to ((e1.trans e2).trans z2)).newLst s3 z3 q2 p (by rw [putP_out _ _ _ hpt]; exact hp)
    · cases hx
theorem snd_stp {live : Bool} {a b : CE} (ha : Snd CX G Φ n a) (hb : Snd CX G Φ n b) : Snd CX G Φ n (.stp live a b) := by
  refine sndE _ (fun N k e => match e with | .Subscript v (.Slice none none (some t) _) _ => (ck G N n a).e k v && (ck G N n b).e k t | _ => false) rfl (fun N => rfl) (fun N k x hx => ?_) fun {N E k X x} o hN hx => ?_
  · split at hx
    · rfl
    · cases hx
  · split at hx
    · simp only [Bool.and_eq_true] at hx
      refine PE.imp (pe_stp (ha.e o hN hx.1) (hb.e o hN hx.2)) fun σ H Q q => ?_
      obtain ⟨h, ρ, S, Q0, Y, s, q, kv, kx⟩ := q
      refine ⟨h, ρ, S, _, Y, s, q, fun w S1 v H1 s1 e1 r1 q1 => ⟨h, ρ, S1, _, Y, s1, q1, fun w2 S2 v2 H2 s2 e2 r2 q2 => ?_, kx.to e1⟩, kx⟩
      obtain ⟨ws, k', hw, rfl, q2⟩ := q2
      obtain ⟨a1, us, rfl, b1, c1⟩ := rdL_sq s2.sto (r1.mono e2) hw
      cases r2
      have kv2 := kv.to (e1.trans e2)
      exact ⟨k', rfl, k', rfl, a1, us, rfl, b1.sq, q2.imp (fun z => ⟨z.1, kv2.newLst s2 c1 z.2⟩) fun z => ⟨z.1, kv2.newLst s2 c1.reverse z.2⟩⟩
    · cases hx
/-- pairs of numbers as they stand -/
theorem pairs_v {K : KH} {S : Sto} {H : Hp} : ∀ {ws : List W} {ks : List (Int × Int)} {vs : List V}, pairsW ws = some ks → RepL K (fz S H) ws vs →
    ∃ ps : List (Addr × List Int), vs = ps.map (fun p => V.ref p.1) ∧ ps.map (·.2) = ks.map (fun p => [p.1, p.2]) ∧ ∀ p ∈ ps, H p.1 = some (.tup (p.2.map V.int)) ∧ S p.1 = none ∧ K.h p.1 = false
  | [], _, _, h, .nil => by cases h; exact ⟨[], rfl, rfl, fun p hp => nomatch hp⟩
  | w :: ws, ks, _, h, .cons a b => by
    unfold pairsW at h
    split at h
    · rename_i e; cases e
    · rename_i i j us e
      cases e
      cases a with
      | tup nk ht rr =>
        obtain _ | ⟨rk, _ | ⟨rv, _ | _⟩⟩ := rr
        cases rk
        cases rv
        cases er : pairsW ws with
        | none => rw [er] at h; cases h
        | some ks' =>
          rw [er] at h
          cases h
          obtain ⟨ps, e1, e2, e3⟩ := pairs_v er b
          obtain ⟨hs, hH⟩ := fz_some ht
          refine ⟨(_, [i, j]) :: ps, by rw [e1]; rfl, by rw [List.map_cons, e2]; rfl, fun p hp => ?_⟩
          rcases List.mem_cons.mp hp with rfl | hp
          · exact ⟨hH, hs, nk⟩
          · exact e3 p hp
    · cases h
theorem lex_of {L : List (Addr × List Int)} (hb : ∀ p ∈ L, ∃ i j : Int, p.2 = [i, j] ∧ (0 ≤ i ∧ i < 64) ∧ (0 ≤ j ∧ j < 64)) (nd : (L.map (·.2)).Nodup) (pw : L.Pairwise fun q r => TS.code 64 q.2 ≤ TS.code 64 r.2) :
    ∃ ks : List (Int × Int), L.map (·.2) = ks.map (fun p => [p.1, p.2]) ∧ ks.Pairwise lexP := by
  induction L with
  | nil => exact ⟨[], rfl, .nil⟩
  | cons p L ih =>
    obtain ⟨n1, n2⟩ := List.nodup_cons.mp nd
    obtain ⟨w1, w2⟩ := List.pairwise_cons.mp pw
    obtain ⟨ks, e1, e2⟩ := ih (fun q hq => hb q (List.mem_cons_of_mem _ hq)) n2 w2
    obtain ⟨i, j, e, bi, bj⟩ := hb p List.mem_cons_self
    refine ⟨(i, j) :: ks, by rw [List.map_cons, List.map_cons, e, e1], List.pairwise_cons.mpr ⟨fun q hq => ?_, e2⟩⟩
    have hq' : ([q.1, q.2] : List Int) ∈ L.map (·.2) := by rw [e1]; exact List.mem_map.mpr ⟨q, hq, rfl⟩
    obtain ⟨r, hr, er⟩ := List.mem_map.mp hq'
    obtain ⟨i', j', e', bi', bj'⟩ := hb r (List.mem_cons_of_mem _ hr)
    rw [er] at e'
    cases e'
    have c := w1 r hr
    rw [e, er] at c
    exact pair_lt c (fun z => n1 (by show p.2 ∈ L.map (·.2); rw [e, z]; exact hq')) bi bj bi' bj'
theorem rep_pairs {K : KH} {F : Hp} : ∀ {L : List (Addr × List Int)} {ks : List (Int × Int)}, L.map (·.2) = ks.map (fun p => [p.1, p.2]) → (∀ p ∈ L, F p.1 = some (.tup (p.2.map V.int)) ∧ K.h p.1 = false) → RepL K F (ks.map pairW) (L.map fun q => V.ref q.1)
  | [], [], _, _ => .nil
  | [], _ :: _, h, _ => by simp at h
  | _ :: _, [], h, _ => by simp at h
  | p :: L, k :: ks, h, hp => by
    rw [List.map_cons, List.map_cons] at h
    injection h with h1 h2
    obtain ⟨a, b⟩ := hp p List.mem_cons_self
    rw [h1] at a
    exact .cons (.tup b a (.cons (.int _) (.cons (.int _) .nil))) (rep_pairs h2 fun q hq => hp q (List.mem_cons_of_mem _ hq))
theorem snd_sset {live : Bool} {a : CE} (ha : Snd CX G Φ n a) : Snd CX G Φ n (.sset live a) := by
  refine sndE _ (fun N k e => match e with
    | .Call (.Name x _) [.Call (.Name y _) [z] [] _] [] _ => decide (x = ("sorted" : Str)) && glC k.sc x && decide (y = ("set" : Str)) && glC k.sc y && notStar z && (ck G N n a).e k z
    | _ => false) rfl (fun N => rfl) (fun N k x hx => ?_) fun {N E k X x} o hN hx => ?_
  · split at hx
    · rfl
    · cases hx
  · split at hx
    · rename_i x p y p2 z p3 pos
      simp only [Bool.and_eq_true] at hx
      obtain ⟨⟨⟨⟨⟨h1, h2⟩, h3⟩, h4⟩, h5⟩, h6⟩ := hx
      obtain rfl := of_decide_eq_true h1
      obtain rfl := of_decide_eq_true h3
      have hu := units_of o.room
      refine PE.imp (pe_callB (cr_sortedT o.calm) (gl_of o h2) o.g.more.2.2.2.2.2.1 PyProof.Rows.boot_sorted (pa_cons (pe_callTy (cr_setOfT o.calm (by omega)) (gl_of o h4) o.g.more.2.2.2.2.1 PyProof.Rows.boot_set (pa_cons (ha.e o hN h6) pa_nil (star_of h5)) (by decide) (by decide) (star_of h5) rfl) pa_nil rfl) (by decide) (by decide) rfl rfl) fun σ H Q q => ?_
      obtain ⟨h, ρ, S, Q0, Y, s, q, kv, kx⟩ := q
      refine ⟨h, ρ, S, _, Y, s, q, fun w S1 v H1 s1 e1 r1 q1 => ?_, kx⟩
      obtain ⟨ws, ks, hw, hk, h64, hb, q1⟩ := q1
      obtain ⟨a1, us, rfl, b1, c1⟩ := rdL_sq s1.sto r1 hw
      obtain ⟨ps, rfl, e2, e3⟩ := pairs_v hk c1
      have hl : ps.length = ks.length := by
        have := congrArg List.length e2
        rw [List.length_map, List.length_map] at this
        exact this
      have memk : ∀ q, q ∈ ps → ∃ z ∈ ks, q.2 = [z.1, z.2] := fun q hq => by
        have : q.2 ∈ ks.map (fun p => [p.1, p.2]) := by rw [← e2]; exact List.mem_map.mpr ⟨q, hq, rfl⟩
        obtain ⟨z, hz, ez⟩ := List.mem_map.mp this
        exact ⟨z, hz, ez.symm⟩
      refine ⟨a1, ps, rfl, b1.sq, fun q hq => .of (e3 q hq).1, by omega, fun A L hA hL1 hL2 => ?_⟩
      have kA := s1.sto.new (o := SetTO X.prog X.w A L) hA
      have smA := same_new (o := SetTO X.prog X.w A L) s1.sto hA
      have s2 := s1.to smA kA
      have neA : ∀ q ∈ ps, q.1 ≠ A := fun q hq z => by
        have := (e3 q hq).1
        rw [z, hA] at this
        cases this
      have stay : ∀ q ∈ ps, (upd H1 A (SetTO X.prog X.w A L)) q.1 = some (.tup (q.2.map V.int)) := fun q hq => by rw [upd_ne (neA q hq)]; exact (e3 q hq).1
      refine ⟨A, L, 2, 64, rfl, upd_same, fun q hq => .of (stay q (hL1 q hq)), by decide, fun q hq => ?_, fun L' B pm nd _ pw hB => ?_⟩
      · obtain ⟨z, hz, ez⟩ := memk q (hL1 q hq)
        rw [ez]
        refine ⟨rfl, fun m hm => ?_⟩
        rcases List.mem_cons.mp hm with rfl | hm
        · exact (hb z hz).1
        · rw [List.mem_singleton.mp hm]
          exact (hb z hz).2
      · have inP : ∀ q ∈ L', q ∈ ps := fun q hq => hL1 q (pm.mem_iff.mp hq)
        obtain ⟨ks', f1, f2⟩ := lex_of (L := L') (fun q hq => by
          obtain ⟨z, hz, ez⟩ := memk q (inP q hq)
          exact ⟨z.1, z.2, ez, (hb z hz).1, (hb z hz).2⟩) nd pw
        have same : ∀ p, p ∈ ks' ↔ p ∈ ks := fun p => by
          constructor
          · intro hp
            have : ([p.1, p.2] : List Int) ∈ L'.map (·.2) := by rw [f1]; exact List.mem_map.mpr ⟨p, hp, rfl⟩
            obtain ⟨q, hq, eq⟩ := List.mem_map.mp this
            obtain ⟨z, hz, ez⟩ := memk q (inP q hq)
            rw [eq] at ez
            injection ez with z1 z2
            injection z2 with z2 _
            have : p = z := Prod.ext z1 z2
            rw [this]
            exact hz
          · intro hp
            have : ([p.1, p.2] : List Int) ∈ ps.map (·.2) := by rw [e2]; exact List.mem_map.mpr ⟨p, hp, rfl⟩
            obtain ⟨q, hq, eq⟩ := List.mem_map.mp this
            have h3 := hL2 q hq
            obtain ⟨r, hr, er⟩ := List.mem_map.mp h3
            have h4 : r.2 ∈ ks'.map (fun p => [p.1, p.2]) := by rw [← f1]; exact List.mem_map.mpr ⟨r, pm.mem_iff.mpr hr, rfl⟩
            obtain ⟨z, hz, ez⟩ := List.mem_map.mp h4
            have ez' : [z.1, z.2] = r.2 := ez
            rw [er, eq] at ez'
            injection ez' with z1 z2
            injection z2 with z2 _
            have : z = p := Prod.ext z1 z2
            rw [← this]
            exact hz
        refine (kv.to (e1.trans smA)).newLst s2 (rep_pairs f1 fun q hq => ?_) (q1 ks' f2 same) B hB
        have := inP q hq
        exact ⟨by rw [fz_none (e3 q this).2.1]; exact stay q this, (e3 q this).2.2⟩
    · cases hx
end
end MP

set_option Elab.async false
set_option linter.all false
set_option maxRecDepth 100000
set_option maxHeartbeats 4000000
/-! MR: repr of a tuple of three, the last one a dict: the text of its data. -/
namespace MP
open PySem PySem.Spec PyProof.Rows L2
section
variable {prog : Program} {w : World} {A : Around} {E : Value → Shared → Prop} {s : Shared} {Q : Value → Shared → Prop}
theorem repr_three {a : Addr} {o : Obj} {n : Nat} {u v x : Value} {d e f : PyData} {as bs cs : List Addr} (ho : s.heap.get? a = some o) (hc : o.cls = .type "tuple") (hd : o.data = .seq #[u, v, x] n)
    (ru : Reads s.heap u d as) (rv : Reads s.heap v e bs) (rx : Reads s.heap x f cs) (nd : d.hasDict = false) (ne : e.hasDict = false) (nf : sysModules ∉ cs) (sd : d.showable = true) (se : e.showable = true) (sf : f.showable = true)
    (hz : (PyData.tuple [d, e, f]).shown.length ≤ sizeLine) (hg : A.guards = some []) (hu : A.units + ((PyData.tuple [d, e, f]).depth + 1) < cLine)
    (hQ : ∀ h' t tk, (∀ b o, s.heap.get? b = some o → h'.get? b = some o) → Q (.str (PyData.tuple [d, e, f]).shown t) { s with heap := h', toks := tk }) : wpAny (model prog w) A (call (.builtin "repr") [.ref a]) Q E s := by
  have hz' : (tupleText [d.shown, e.shown, f.shown]).length ≤ sizeLine := by simpa only [PyData.shown, PyData.shownAll] using hz
  have le : ∀ t ∈ [d.shown, e.shown, f.shown], t.length ≤ sizeLine := fun t ht => Nat.le_trans (tupleText_mem_le ht) hz'
  obtain ⟨b1, m1, k1⟩ := ReprK.of_reads (prog := prog) (w := w) ru sd (fun z => by rw [nd] at z; cases z) (le _ (by simp))
  obtain ⟨b2, m2, k2⟩ := ReprK.of_reads (prog := prog) (w := w) rv se (fun z => by rw [ne] at z; cases z) (le _ (by simp))
  obtain ⟨b3, m3, k3⟩ := ReprK.of_reads (prog := prog) (w := w) rx sf (fun _ => nf) (le _ (by simp))
  have hD : (PyData.tuple [d, e, f]).depth = max d.depth (max e.depth (max f.depth 0)) + 1 := rfl
  have all : ReprAllK prog w (b1 ++ b2 ++ b3) s.heap (max d.depth (max e.depth (max f.depth 0))) [u, v, x] [d.shown, e.shown, f.shown] := by
    have t1 := ReprAllK.more_le (as' := b1 ++ b2 ++ b3) (d' := max d.depth (max e.depth (max f.depth 0))) (fun b hb => by simp [hb]) (by omega) (ReprAllK.cons k1 .nil)
    have t2 := ReprAllK.more_le (as' := b1 ++ b2 ++ b3) (d' := max d.depth (max e.depth (max f.depth 0))) (fun b hb => by simp [hb]) (by omega) (ReprAllK.cons k2 .nil)
    have t3 := ReprAllK.more_le (as' := b1 ++ b2 ++ b3) (d' := max d.depth (max e.depth (max f.depth 0))) (fun b hb => by simp [hb]) (by omega) (ReprAllK.cons k3 .nil)
    cases t1 with
    | cons q1 _ =>
      cases t2 with
      | cons q2 _ => exact .cons q1 (.cons q2 t3)
  have hr : Reads s.heap (.ref a) (.tuple [d, e, f]) (as ++ (bs ++ (cs ++ []))) := .tuple ho hc hd (.cons ru (.cons rv (.cons rx .nil)))
  have most : ReadAtMost s.heap (max d.depth (max e.depth (max f.depth 0))) (b1 ++ b2 ++ b3) := ((m1.mono (by omega)).append (m2.mono (by omega))).append (m3.mono (by omega))
  have notin : a ∉ b1 ++ b2 ++ b3 := not_mem_of_deeper hr (by rw [hD]; omega) most
  refine call_repr_slot (by omega) ⟨o, ho, hc⟩ F.slot_tuple_repr (call_tuple_reprK (A := A.in1) ho hc hd notin all hg (fun b _ => Clear.nil b) (by show A.units + 1 + _ < _; rw [hD] at hu; omega) (fun _ _ z => z) (fun h' t tk hk => ⟨_, _, rfl, ?_⟩) hz')
  have := hQ h' t tk hk
  simpa only [PyData.shown, PyData.shownAll] using this
end
end MP

set_option Elab.async false
set_option linter.all false
set_option maxRecDepth 100000
set_option maxHeartbeats 4000000
/-! MR2: a dict with tuples for keys, read as data. -/
namespace MP
open PySem PySem.Spec PyProof.Rows L2
theorem key1_reads {h : Heap} {k : Key} {u : Value} (r : RelV (kV k) u) : Reads h u (keyD1 k) [] := by
  cases k with
  | inl i => obtain ⟨t, rfl⟩ := (show ∃ t, u = Value.int i t from r); exact .int i t
  | inr x => obtain ⟨t, rfl⟩ := (show ∃ t, u = Value.str x t from r); exact .str x t
theorem keys_reads {h : Heap} : ∀ {ks : List Key} {us : List Value}, Vals (ks.map kV) us → ReadsAll h us (ks.map keyD1) []
  | [], _, r => by cases r; exact .nil
  | k :: ks, _, r => by
    rw [List.map_cons] at r
    cases r with
    | cons a b => exact .cons (as := []) (bs := []) (key1_reads a) (keys_reads b)
theorem ints_reads {h : Heap} : ∀ {is : List Int} {us : List Value}, Vals (is.map V.int) us → ReadsAll h us (is.map PyData.int) []
  | [], _, r => by cases r; exact .nil
  | i :: is, _, r => by
    rw [List.map_cons] at r
    cases r with
    | cons a b =>
      obtain ⟨t, rfl⟩ := a
      exact .cons (as := []) (bs := []) (.int i t) (ints_reads b)
section
variable {X : Cx} {pins : List (Addr × Obj)} {σ : L2.St} {H : Hp} {s : Shared}
theorem kt_keys (I : Inv X pins σ H s) : ∀ {kvs : List (List Key × V)} {xs : List (List Key × Addr × Value)}, KT H kvs xs → ReadsAll s.heap (xs.map fun x => Value.ref x.2.1) (kvs.map fun kv => keyD kv.1) [] ∧ Vals (kvs.map (·.2)) (xs.map fun x => x.2.2)
  | _, _, .nil => ⟨.nil, .nil⟩
  | _, _, .cons h t => by
    obtain ⟨r1, r2⟩ := kt_keys I t
    obtain ⟨h1, h2, h3⟩ := h
    obtain ⟨its, rv, ⟨o, e1, e2, n, e3⟩, _⟩ := I.tuple (SqT.of h2)
    exact ⟨.cons (as := []) (bs := []) (.tuple e1 e2 e3 (by simpa using keys_reads rv)) r1, .cons h3 r2⟩
theorem dt_reads (I : Inv X pins σ H s) {p : Addr} {kis : List (List Key × Int)} (h : Rd H p (.dT (kis.map fun ki => (ki.1, V.int ki.2)))) : Reads s.heap (.ref p) (dtD kis) [p] ∧ sysModules ∉ [p] := by
  obtain ⟨_, lo, xs, kt, o, es, ep, ho, ex, hd, he, _, _⟩ := dt_rd I.hok h
  obtain ⟨r1, r2⟩ := kt_keys I kt
  have ev : (kis.map fun ki => (ki.1, V.int ki.2)).map (·.2) = (kis.map (·.2)).map V.int := by rw [List.map_map, List.map_map]; rfl
  rw [ev] at r2
  have ek : (kis.map fun ki => (ki.1, V.int ki.2)).map (fun kv => keyD kv.1) = kis.map fun ki => keyD ki.1 := by rw [List.map_map]; rfl
  rw [ek] at r1
  have e1 : es.toList.map (·.key) = xs.map fun x => Value.ref x.2.1 := by rw [he, List.map_map]; rfl
  have e2 : es.toList.map (·.val) = xs.map fun x => x.2.2 := by rw [he, List.map_map]; rfl
  have k1 : (kis.map fun ki => (keyD ki.1, PyData.int ki.2)).map (·.1) = kis.map fun ki => keyD ki.1 := by rw [List.map_map]; rfl
  have k2 : (kis.map fun ki => (keyD ki.1, PyData.int ki.2)).map (·.2) = (kis.map (·.2)).map PyData.int := by rw [List.map_map, List.map_map]; rfl
  refine ⟨.dict (as := []) (bs := []) ho ex.1 hd (by rw [e1, k1]; exact r1) (by rw [e2, k2]; exact ints_reads r2), fun z => ?_⟩
  rw [List.mem_singleton.mp z] at lo
  exact absurd (beq_self_eq_true p) (by rw [lo]; exact Bool.false_ne_true)
end
end MP

set_option Elab.async false
set_option linter.all false
set_option maxRecDepth 100000
set_option maxHeartbeats 4000000
/-! MP10c: repr of a tuple of three as an expression. -/
namespace MP
open PySem PySem.Spec PyProof.Rows L2
theorem boot_rpr : bootBuiltins "repr" = some (.builtin "repr") := by decide +kernel
def rRpr (K : PySem.W.Frag) : List V → Hp → VK → Prop := fun vs H Q => ∃ (a p : Addr) (vt vd : V) (dt dd : PyData) (kis : List (List Key × Int)), vs = [.ref a] ∧ H a = some (.tup [vt, vd, .ref p]) ∧ Dp K H vt dt ∧ Dp K H vd dd ∧
  Rd H p (.dT (kis.map fun ki => (ki.1, V.int ki.2))) ∧ dt.canLay0 = true ∧ dd.canLay0 = true ∧ dt.showable = true ∧ dd.showable = true ∧ (dtD kis).showable = true ∧
  (PyData.tuple [dt, dd, dtD kis]).shown.length ≤ sizeLine ∧ (PyData.tuple [dt, dd, dtD kis]).depth ≤ 60 ∧ Q (.str (PyData.tuple [dt, dd, dtD kis]).shown) H
theorem call_rpr {X : Cx} (hg : X.A.guards = some []) (hu : X.A.units + 65 < cLine) : CallR X (.builtin "repr") (rRpr X.K) := by
  intro pins s σ H xs us Q I r h
  obtain ⟨a, p, vt, vd, dt, dd, kis, rfl, ha, ht, hd, hp, c1, c2, s1, s2, s3, hz, hdp, q⟩ := h
  obtain ⟨u, rfl, ru⟩ := r.one
  cases ru
  obtain ⟨its, rv, ⟨o, e1, e2, n, e3⟩, _⟩ := I.tuple (SqT.of ha)
  cases rv with
  | cons r1 rr =>
    cases rr with
    | cons r2 rr =>
      cases rr with
      | cons r3 rr =>
        cases rr
        cases r3
        obtain ⟨as, d1⟩ := Dp.reads I dt vt _ ht r1
        obtain ⟨bs, d2⟩ := Dp.reads I dd vd _ hd r2
        obtain ⟨d3, n3⟩ := dt_reads I hp
        exact repr_three e1 e2 e3 d1 d2 d3 (PyData.hasDict_of_canLay dt c1) (PyData.hasDict_of_canLay dd c2) n3 s1 s2 s3 hz hg (by omega) fun h' t tk hk => ⟨.str _, H, I.kept hk, ⟨t, rfl⟩, q⟩
theorem kvr_ints {K : KH} {F : Hp} : ∀ {kis : List (List Key × Int)} {kv' : List (List Key × V)}, KVR K F (kis.map fun ki => (ki.1, W.int ki.2)) kv' → kv' = kis.map fun ki => (ki.1, V.int ki.2)
  | [], _, .nil => rfl
  | ki :: kis, _, .cons (b := q) h t => by
    obtain ⟨h1, h2⟩ := h
    obtain ⟨qk, qv⟩ := q
    cases h1
    cases h2
    rw [kvr_ints t]
    rfl
section
variable {CX : CXT} {G : Gv} {Φ : Nat → Spec} {n : Nat}
theorem snd_rpr {a : CE} (ha : Snd CX G Φ n a) : Snd CX G Φ n (.rpr a) := by
  refine sndE _ (fun N k e => match e with
    | .Call (.Name x _) [z] [] _ => G.rp && decide (x = ("repr" : Str)) && glC k.sc x && notStar z && (ck G N n a).e k z
    | _ => false) rfl (fun N => rfl) (fun N k x hx => ?_) fun {N E k X x} o hN hx => ?_
  · split at hx
    · rfl
    · cases hx
  · split at hx
    · rename_i x p z pos
      simp only [Bool.and_eq_true] at hx
      obtain ⟨⟨⟨⟨h1, h2⟩, h3⟩, h4⟩, h5⟩ := hx
      obtain rfl := of_decide_eq_true h2
      refine PE.imp (pe_callB (call_rpr (o.gd h1) (units_of o.room)) (gl_of o h3) (o.rpn h1) boot_rpr (pa_cons (ha.e o hN h5) pa_nil (star_of h4)) (by decide) (by decide) (star_of h4) rfl) fun σ H Q q => ?_
      obtain ⟨h, ρ, S, Q0, Y, s, q, kv, kx⟩ := q
      refine ⟨h, ρ, S, _, Y, s, q, fun w S1 v H1 s1 e1 r1 q1 => ?_, kx⟩
      obtain ⟨t, d, p, dt, dd, kis, rfl, ht, hd, hp, c1, c2, s1', s2', s3', hz, hdp, q1⟩ := q1
      obtain ⟨b, vs, rfl, hb, rb⟩ := tup_sq r1
      obtain _ | ⟨r2, _ | ⟨r3, _ | ⟨r4, _ | _⟩⟩⟩ := rb
      cases r4
      obtain ⟨kv', hk1, hk2⟩ := cell_obT s1.sto hp
      rw [kvr_ints hk2] at hk1
      exact ⟨b, p, _, _, dt, dd, kis, rfl, hb, ht.dp s1.sto r2, hd.dp s1.sto r3, hk1, c1, c2, s1', s2', s3', hz, hdp, (kv.to e1).give s1 (.str _) q1⟩
    · cases hx
end
end MP

set_option Elab.async false
set_option linter.all false
set_option maxRecDepth 100000
set_option maxHeartbeats 4000000
/-! MB: sets' tables up to a mask of 511: each slot is met, what is put in is found again, laid anew. -/
namespace MS
open PySem PySem.Spec PyProof.Rows L2
def MaskB (m : Nat) : Prop := MaskOk m ∨ m = 511
theorem MaskB.odd {m : Nat} (h : MaskB m) : m % 2 = 1 := h.elim mask_odd fun e => by rw [e]
theorem MaskB.le {m : Nat} (h : MaskB m) : m ≤ 511 := by rcases h with (e | e | e) | e <;> omega
/-- a piece of the round, in one go -/
def orbL (m : Nat) : Nat → Nat → List Nat
  | 0, _ => []
  | n + 1, x => x :: orbL m n ((x * 5 + 1) % (m + 1))
theorem orb_mem {m y : Nat} : ∀ (n a : Nat), y ∈ orbL m n (lcgN m a) → ∃ b, a ≤ b ∧ b < a + n ∧ lcgN m b = y
  | 0, _, h => nomatch h
  | n + 1, a, h => by
    rcases List.mem_cons.mp h with e | h
    · exact ⟨a, Nat.le_refl _, by omega, e.symm⟩
    · obtain ⟨b, h1, h2, h3⟩ := orb_mem n (a + 1) h
      exact ⟨b, by omega, by omega, h3⟩
theorem orb511 : ((List.range 512).all fun j => (orbL 511 512 0).contains j) = true := by decide +kernel
theorem back511 : lcgN 511 512 = 0 := by decide +kernel
theorem all511 {j : Nat} (h : j ≤ 511) : ∃ b, b ≤ 511 ∧ lcgN 511 b = j := by
  have z := List.all_eq_true.mp orb511 j (List.mem_range.mpr (by omega))
  obtain ⟨b, _, h2, h3⟩ := orb_mem (m := 511) 512 0 (List.contains_iff_mem.mp z)
  exact ⟨b, by omega, h3⟩
theorem far511 : ∀ k, lcgN 511 (512 + k) = lcgN 511 k
  | 0 => back511
  | k + 1 => by
    show (lcgN 511 (512 + k) * 5 + 1) % 512 = (lcgN 511 k * 5 + 1) % 512
    rw [far511 k]
theorem meetB {m i j : Nat} (hm : MaskB m) (hi : i ≤ m) (hj : j ≤ m) : ∃ k, k ≤ m ∧ lcgI m i k = j := by
  rcases hm with hm | rfl
  · exact lcgI_all hm hi hj
  · obtain ⟨a, ha, rfl⟩ := all511 hi
    obtain ⟨b, hb, rfl⟩ := all511 hj
    by_cases c : a ≤ b
    · exact ⟨b - a, by omega, by rw [lcgN_add, show a + (b - a) = b by omega]⟩
    · exact ⟨512 + b - a, by omega, by rw [lcgN_add, show a + (512 + b - a) = 512 + b by omega, far511]⟩
theorem runB {m j : Nat} (hm : MaskB m) (h : Int) (hj : j ≤ m) : ∃ n, n ≤ m + 12 ∧ runI m (SetTable.bits h) n = j := by
  obtain ⟨k, hk, e⟩ := meetB hm (runI_le m (SetTable.bits h) 12) hj
  exact ⟨12 + k, by omega, by rw [runI_tail (bits_lt h)]; exact e⟩
theorem emptyB {m j : Nat} (hm : MaskB m) (h : Int) (hj : j ≤ m) : ∃ k, k < 10 * SetTable.turns m ∧ way m h k = j := by
  obtain ⟨n, hn, e⟩ := runB hm h hj
  obtain ⟨k, hk, e2⟩ := run_nth m (SetTable.bits h) n
  exact ⟨k, by unfold SetTable.turns; omega, (congrArg SetTable.Probe.j e2).trans e⟩
theorem wayB_le {m k : Nat} {h : Int} : way m h k ≤ m := by
  have r := runEnd_bd (show SetTable.bits h % (m + 1) ≤ m from Nat.le_of_lt_succ (Nat.mod_lt _ (Nat.succ_pos _)))
  have z := nth_in (m := m) k (runAt m (SetTable.bits h % (m + 1)) (SetTable.bits h)) (by
    show SetTable.bits h % (m + 1) + (SetTable.runEnd m (SetTable.bits h % (m + 1)) - SetTable.bits h % (m + 1)) ≤ m
    omega)
  exact Nat.le_trans (Nat.le_add_right _ _) z
/-- a table whose rows are found again -/
structure TabB (t : SetTable) (hs : List Int) : Prop where
  ris : Ris t.place.toList
  dm : t.dummies = #[]
  sz : t.place.size = hs.length
  mok : MaskB t.mask
  bd : ∀ x ∈ t.place.toList, x ≤ t.mask
  reach : ∀ (i : Nat) (h : Int) (j : Nat), hs[i]? = some h → t.place.toList[i]? = some j → ∃ k, way t.mask h k = j ∧ ∀ k', k' < k → way t.mask h k' ∈ t.place.toList
variable {t : SetTable} {hs : List Int}
theorem TabB.len (T : TabB t hs) : t.place.toList.length = hs.length := by rw [Array.length_toList]; exact T.sz
theorem TabB.first (T : TabB t hs) (hl : hs.length ≤ t.mask) (h : Int) : ∃ K, K < 10 * SetTable.turns t.mask ∧ way t.mask h K ∉ t.place.toList ∧ ∀ k, k < K → way t.mask h k ∈ t.place.toList := by
  obtain ⟨j, hj, hn⟩ := st_missing t.place.toList (t.mask + 1) (by rw [T.len]; omega)
  obtain ⟨k, hk, e⟩ := emptyB T.mok h (Nat.le_of_lt_succ hj)
  obtain ⟨K, h1, h2, h3⟩ := st_least (p := fun k => way t.mask h k ∉ t.place.toList) k (by show way t.mask h k ∉ _; rw [e]; exact hn)
  exact ⟨K, Nat.lt_of_le_of_lt h1 hk, h2, fun k' hk' => Classical.byContradiction (h3 k' hk')⟩
theorem TabB.before (T : TabB t hs) {h : Int} {K i j : Nat} (hK : way t.mask h K ∉ t.place.toList) (hi : hs[i]? = some h) (hj : t.place.toList[i]? = some j) : ∃ k, k < K ∧ way t.mask h k = j := by
  obtain ⟨k, e, hb⟩ := T.reach i h j hi hj
  refine ⟨k, Nat.lt_of_not_le fun c => hK ?_, e⟩
  rcases Nat.lt_or_eq_of_le c with c | rfl
  · exact hb K c
  · rw [e]; exact List.mem_of_getElem? hj
theorem TabB.put (T : TabB t hs) {h : Int} {K : Nat} (hK : way t.mask h K ∉ t.place.toList) (hb : ∀ k, k < K → way t.mask h k ∈ t.place.toList) {i : Nat} (hi : i = SetTable.below t.place (way t.mask h K)) :
    TabB (t.put (way t.mask h K)).1 (hs.take i ++ h :: hs.drop i) ∧ (t.put (way t.mask h K)).1.fill = hs.length + 1 := by
  have wl : way t.mask h K ≤ t.mask := wayB_le
  have cut := (below_cut T.ris (way t.mask h K)).1
  have pl := put_place t (way t.mask h K)
  rw [← hi] at cut pl
  have i1 : i ≤ t.place.toList.length := by rw [Array.length_toList]; exact cut
  have i2 : i ≤ hs.length := by rw [← T.sz]; exact cut
  have stays : ∀ x, x ∈ t.place.toList → x ∈ (t.put (way t.mask h K)).1.place.toList := fun x hx => by rw [pl]; exact mem_ins.2 (.inr hx)
  have sz : (t.put (way t.mask h K)).1.place.size = hs.length + 1 := by rw [← Array.length_toList, pl, len_ins _ i1, T.len]
  refine ⟨⟨ris_insert T.ris fun e => hK (List.mem_of_getElem? (by rw [Array.getElem?_toList]; exact e)), put_dm T.dm _, by rw [sz, len_ins _ i2], T.mok, fun x hx => ?_, fun n g j h1 h2 => ?_⟩, ?_⟩
  · rw [pl] at hx
    rcases mem_ins.1 hx with rfl | hx
    · exact wl
    · exact T.bd x hx
  · rw [tins_get hs i2] at h1
    rw [pl, tins_get _ i1] at h2
    show ∃ k, way t.mask g k = j ∧ ∀ k', k' < k → way t.mask g k' ∈ (t.put (way t.mask h K)).1.place.toList
    have old : ∀ n, hs[n]? = some g → t.place.toList[n]? = some j → ∃ k, way t.mask g k = j ∧ ∀ k', k' < k → way t.mask g k' ∈ (t.put (way t.mask h K)).1.place.toList := fun n e1 e2 =>
      let ⟨k, a, b⟩ := T.reach n g j e1 e2
      ⟨k, a, fun k' hk => stays _ (b k' hk)⟩
    by_cases c1 : n < i
    · rw [if_pos c1] at h1 h2
      exact old n h1 h2
    · rw [if_neg c1] at h1 h2
      by_cases c2 : n = i
      · rw [if_pos c2] at h1 h2
        cases h1; cases h2
        exact ⟨K, rfl, fun k' hk => stays _ (hb k' hk)⟩
      · rw [if_neg c2] at h1 h2
        exact old _ h1 h2
  · show (t.put (way t.mask h K)).1.place.size + (t.put (way t.mask h K)).1.dummies.size = _
    rw [sz, put_dm T.dm]; rfl
/-! ### laid anew -/
theorem freeB {m : Nat} (hm : MaskB m) (owner : Array (Option Nat)) (h : Int) {j : Nat} (hj : j ≤ m) (hf : oAt owner j = none) :
    ∃ K, SetTable.layClean.free m owner (SetTable.turns m) (SetTable.bits h % (m + 1)) (SetTable.bits h) = some (way m h K) ∧ oAt owner (way m h K) = none ∧ ∀ k, k < K → oAt owner (way m h k) ≠ none := by
  obtain ⟨n, hn, e⟩ := runB hm h hj
  have at_ : way m h (off m (SetTable.bits h % (m + 1)) (SetTable.bits h) n) = j := by
    show (nth m (runAt m _ _) _).j = j
    rw [nth_off, itL_run]; exact e
  obtain ⟨K, k1, k2, k3⟩ := st_least (p := fun k => oAt owner (way m h k) = none) _ (by show oAt owner (way m h _) = none; rw [at_]; exact hf)
  refine ⟨K, free_spec m owner (SetTable.turns m) n _ _ K (by unfold SetTable.turns; omega) k1 (fun k hk => ?_) (by rw [show oAt owner (nth m (runAt m (SetTable.bits h % (m + 1)) (SetTable.bits h)) K).j = none from k2]; rfl), k2, k3⟩
  have z := k3 k hk
  show (oAt owner (way m h k)).isNone = false
  cases y : oAt owner (way m h k) with
  | none => exact absurd y z
  | some _ => rfl
theorem ownB {m : Nat} (hm : MaskB m) {done : List Int} {owner : Array (Option Nat)} (W : Own m done owner) (hl : done.length ≤ m) (h : Int) :
    ∃ j, SetTable.layClean.free m owner (SetTable.turns m) (SetTable.bits h % (m + 1)) (SetTable.bits h) = some j ∧ Own m (done ++ [h]) (owner.setIfInBounds j (some done.length)) := by
  obtain ⟨ps, lp, cover⟩ := W.ps
  obtain ⟨j0, a0, b0⟩ := st_missing ps (m + 1) (by omega)
  have a0 := Nat.le_of_lt_succ a0
  obtain ⟨K, e1, e2, e3⟩ := freeB hm owner h a0 (Classical.byContradiction fun z => b0 (cover j0 a0 z))
  have wl : way m h K ≤ m := wayB_le
  generalize hw : way m h K = x at *
  have self := oAt_set_self (owner := owner) (some done.length) (show x < owner.size by rw [W.sz]; omega)
  have keep : ∀ i, oAt owner i ≠ none → oAt (owner.setIfInBounds x (some done.length)) i ≠ none := fun i hi => by
    by_cases c : i = x
    · rw [c, self]; exact fun e => nomatch e
    · rw [oAt_set_ne _ c]; exact hi
  refine ⟨x, e1, ⟨by rw [Array.size_setIfInBounds]; exact W.sz, fun j k hj e => ?_, fun k hk => ?_, ⟨x :: ps, by rw [List.length_cons, List.length_append, lp]; rfl, fun j hj e => ?_⟩⟩⟩
  · by_cases c : j = x
    · rw [c, self] at e
      cases e
      exact ⟨h, K, by simp, hw.trans c.symm, fun k' hk => keep _ (e3 k' hk)⟩
    · rw [oAt_set_ne _ c] at e
      obtain ⟨g, K', a1, a2, a3⟩ := W.at_ j k hj e
      exact ⟨g, K', by rw [List.getElem?_append_left (List.getElem?_eq_some_iff.mp a1).1]; exact a1, a2, fun k' hk => keep _ (a3 k' hk)⟩
  · by_cases c : k < done.length
    · obtain ⟨j, hj, e⟩ := W.all k c
      exact ⟨j, hj, by rw [oAt_set_ne _ fun z => by rw [z, e2] at e; cases e]; exact e⟩
    · rw [List.length_append, List.length_singleton] at hk
      exact ⟨x, wl, by rw [self, show k = done.length by omega]⟩
  · by_cases c : j = x
    · exact c ▸ List.mem_cons_self
    · rw [oAt_set_ne _ c] at e
      exact List.mem_cons_of_mem _ (cover j hj e)
theorem foldB {m : Nat} (hm : MaskB m) : ∀ (rest done : List Int) (owner : Array (Option Nat)), Own m done owner → done.length + rest.length ≤ m →
    ∃ owner', rest.foldl (stepF m) (some (owner, done.length)) = some (owner', (done ++ rest).length) ∧ Own m (done ++ rest) owner'
  | [], done, owner, W, _ => ⟨owner, by rw [List.append_nil]; rfl, by rw [List.append_nil]; exact W⟩
  | h :: rest, done, owner, W, hl => by
    rw [List.length_cons] at hl
    obtain ⟨j, e, W2⟩ := ownB hm W (by omega) h
    have l1 : (done ++ [h]).length = done.length + 1 := by simp
    obtain ⟨owner', f, W3⟩ := foldB hm rest (done ++ [h]) _ W2 (by omega)
    rw [List.append_assoc, l1] at f
    rw [List.append_assoc] at W3
    exact ⟨owner', by rw [List.foldl_cons, stepF_some e]; exact f, W3⟩
theorem cleanB {m : Nat} (hm : MaskB m) {hs : Array Int} (hn : hs.size ≤ m) : ∃ owner, SetTable.layClean m hs = some owner ∧ Own m hs.toList owner := by
  obtain ⟨owner, f, W⟩ := foldB hm hs.toList [] _ (Own.init m) (by rw [Array.length_toList]; simpa using hn)
  exact ⟨owner, by rw [layClean_eq, show (some (Array.replicate (m + 1) none, 0) : Option (Array (Option Nat) × Nat)) = some (Array.replicate (m + 1) none, ([] : List Int).length) from rfl, f]; rfl, W⟩
theorem laidB (t : SetTable) {hs : Array Int} {wanted M : Nat} (hw : SetTable.sizeAbove wanted - 1 = M) (hM : MaskB M) (hn : hs.size ≤ M) :
    ∃ t' order, t.relaid hs wanted = some (t', order) ∧ order.toList.Perm (List.range hs.size) ∧ TabB t' (order.toList.map fun i => hs.getD i 0) ∧ t'.mask = M ∧ t'.led = t.led := by
  obtain ⟨owner, e, W⟩ := cleanB hM hn
  have inR := ris_live (fun j => owner.getD j none) (List.range (M + 1)) List.pairwise_lt_range
  have r1 : Ris ((liveOf M owner).map (·.1)) := inR.1
  have r2 : ∀ x ∈ (liveOf M owner).map (·.1), x < M + 1 := fun x hx => List.mem_range.mp (inR.2 x hx)
  have l1 : ∀ k, k < hs.size → k ∈ (liveOf M owner).map (·.2) := fun k hk => by
    obtain ⟨j, a, b⟩ := W.all k (by rw [Array.length_toList]; exact hk)
    exact List.mem_map.mpr ⟨(j, k), (mem_live W.sz).2 ⟨a, b⟩, rfl⟩
  have hl : (liveOf M owner).length = hs.size := by
    obtain ⟨ps, p1, p2⟩ := W.ps
    have nd : ((liveOf M owner).map (·.1)).Nodup := List.Pairwise.imp (fun h => Nat.ne_of_lt h) r1
    have a := nat_nodup_len ((liveOf M owner).map (·.1)) ps nd fun x hx => by
      obtain ⟨⟨y, k⟩, hq, rfl⟩ := List.mem_map.mp hx
      obtain ⟨b1, b2⟩ := (mem_live W.sz).1 hq
      exact p2 y b1 (by rw [b2]; exact fun z => nomatch z)
    have b := nat_nodup_len (List.range hs.size) ((liveOf M owner).map (·.2)) List.nodup_range fun k hk => l1 k (List.mem_range.mp hk)
    rw [List.length_map, p1] at a
    have hz : hs.toList.length = hs.size := Array.length_toList
    rw [List.length_map, List.length_range] at b
    omega
  refine ⟨tabOf t M owner, ((liveOf M owner).map (·.2)).toArray, by rw [relaid_eq, hw, e]; rfl, perm_range hs.size _ (by show ((liveOf M owner).map (·.2)).length = _; rw [List.length_map, hl]) l1, ⟨r1, rfl, ?_, hM, fun x hx => Nat.le_of_lt_succ (r2 x hx), fun i h j h1 h2 => ?_⟩, rfl, rfl⟩
  · show ((liveOf M owner).map (·.1)).toArray.size = (((liveOf M owner).map (·.2)).map fun i => hs.getD i 0).length
    rw [List.size_toArray, List.length_map, List.length_map, List.length_map]
  · have h1 : (((liveOf M owner).map (·.2)).map fun i => hs.getD i 0)[i]? = some h := h1
    have h2 : ((liveOf M owner).map (·.1))[i]? = some j := h2
    obtain ⟨⟨y, k⟩, hq, rfl⟩ : ∃ q, (liveOf M owner)[i]? = some q ∧ q.1 = j := by
      rw [List.getElem?_map] at h2
      exact Option.map_eq_some_iff.mp h2
    rw [List.getElem?_map, List.getElem?_map, hq] at h1
    have eh : hs.getD k 0 = h := Option.some.inj h1
    obtain ⟨b1, b2⟩ := (mem_live W.sz).1 (List.mem_of_getElem? hq)
    obtain ⟨g, K, a1, a2, a3⟩ := W.at_ y k b1 b2
    have eg : hs.getD k 0 = g := by rw [Array.getD_eq_getD_getElem?, ← Array.getElem?_toList, a1]; rfl
    rw [← eh, eg]
    refine ⟨K, a2, fun k' hk => ?_⟩
    cases z : oAt owner (way M g k') with
    | none => exact absurd z (a3 k' hk)
    | some k2 => exact List.mem_map.mpr ⟨(way M g k', k2), (mem_live W.sz).2 ⟨wayB_le, z⟩, rfl⟩
theorem size_308 : SetTable.sizeAbove (SetTable.grown 77) = 512 := by decide +kernel
end MS

set_option Elab.async false
set_option linter.all false
set_option maxRecDepth 100000
set_option maxHeartbeats 4000000
/-! MS: sets of tuples, whatever their items are (numbers, texts): adding, set(xs), its length. -/
namespace MS
open PySem PySem.Spec PyProof.Rows L2
section
variable {P : Program} {w : World} {κ : Type} [DecidableEq κ]
/-- items of which nothing is asked -/
structure Mild (knd : KeyKind P w κ) : Prop where
  cls : ∀ {k : κ} {v : Value} (n : Nat), knd.is k v = true → ofAClassStatement n v = pure false
  val : ∀ {k : κ} {v : Value} (n : Nat), knd.is k v = true → ∃ b, hashByValue n v = pure b
theorem mild_mix : Mild (mixKind P w) where
  cls := fun {k v} n h => by
    cases k with
    | inl i => obtain ⟨t, rfl⟩ := Value.isInt_shape (show Value.isInt i v = true from h); cases n <;> rfl
    | inr x => obtain ⟨t, rfl⟩ := Value.isStrOf_shape (show Value.isStrOf x v = true from h); cases n <;> rfl
  val := fun {k v} n h => by
    cases k with
    | inl i => obtain ⟨t, rfl⟩ := Value.isInt_shape (show Value.isInt i v = true from h); exact ⟨true, by cases n <;> rfl⟩
    | inr x => obtain ⟨t, rfl⟩ := Value.isStrOf_shape (show Value.isStrOf x v = true from h); exact ⟨false, by cases n <;> rfl⟩
variable {knd : KeyKind P w κ} {A : Around} {E : Value → Shared → Prop} {s : Shared}
theorem each_is {ks : List κ} {us : List Value} (h : ItemsAre knd ks us) : ∀ u ∈ us, ∃ k, knd.is k u = true := by
  induction h with
  | nil => exact fun u hu => nomatch hu
  | cons h0 _ ih => exact fun u hu => (List.mem_cons.mp hu).elim (fun e => ⟨_, e ▸ h0⟩) (ih u)
theorem ask_cls (M : Mild knd) {ks : List κ} {b : Addr} {Q : Bool → Shared → Prop} (hb : IsTupleKey knd s.heap ks b) (q : Q false s) : wpAny (model P w) A (ofAClassStatement 8 (.ref b)) Q E s := by
  have ty := hb.typeIs
  obtain ⟨ob, its, m, g1, _, g2, g3⟩ := hb
  unfold ofAClassStatement
  refine wpAny_bind (wpAny_typeOf ty ?_)
  have yes : (("tuple" : String) == "tuple") = true := by decide
  simp only [yes, if_true, Bool.not_true, Bool.false_eq_true, if_false]
  try refine wpAny_bind (wpAny_pure ?_); simp only [Bool.not_true, Bool.false_eq_true, if_false]
  show wpAny _ _ (seqItems? (Value.ref b) >>= _) _ _ s
  refine wpAny_bind (wpAny_seqItems g1 g2 ?_)
  dsimp only
  refine wpAny_bind ?_
  show wpAny _ _ (forIn its _ _) _ _ s
  rw [← Array.forIn_toList]
  refine wpAny_forIn_list _ (fun l r z => r.1 = none ∧ z = s ∧ ∀ u ∈ l, ∃ k, knd.is k u = true) _ (fun u l r z hz => ?_) (fun r z hz => ?_) _ _ ⟨rfl, rfl, each_is g3⟩
  · obtain ⟨_, rfl, all⟩ := hz
    obtain ⟨k, hk⟩ := all u List.mem_cons_self
    rw [M.cls _ hk]
    refine wpAny_bind (wpAny_pure ?_); simp only [Bool.false_eq_true, if_false]
    exact wpAny_pure ⟨rfl, rfl, fun x hx => all x (List.mem_cons_of_mem _ hx)⟩
  · obtain ⟨r1, r2⟩ := r
    obtain ⟨e, rfl, _⟩ := hz
    simp only at e; subst e
    exact wpAny_pure q
theorem ask_val (M : Mild knd) {ks : List κ} {b : Addr} {Q : Bool → Shared → Prop} (hb : IsTupleKey knd s.heap ks b) (q : ∀ v, Q v s) : wpAny (model P w) A (hashByValue 8 (.ref b)) Q E s := by
  have ty := hb.typeIs
  obtain ⟨ob, its, m, g1, _, g2, g3⟩ := hb
  unfold hashByValue
  refine wpAny_bind (wpAny_specialOf ty F.slot_tuple_hash.lookup ?_)
  show wpAny _ _ (seqItems? (Value.ref b) >>= _) _ _ s
  refine wpAny_bind (wpAny_seqItems g1 g2 ?_)
  refine wpAny_bind ?_
  show wpAny _ _ (forIn its _ _) _ _ s
  rw [← Array.forIn_toList]
  refine wpAny_forIn_list _ (fun l r z => r.1 = none ∧ z = s ∧ ∀ u ∈ l, ∃ k, knd.is k u = true) _ (fun u l r z hz => ?_) (fun r z hz => ?_) _ _ ⟨rfl, rfl, each_is g3⟩
  · obtain ⟨_, rfl, all⟩ := hz
    obtain ⟨k, hk⟩ := all u List.mem_cons_self
    obtain ⟨b', hb'⟩ := M.val 7 hk
    rw [hb']
    refine wpAny_bind (wpAny_pure ?_)
    cases b' with
    | true =>
      simp only [Bool.not_true, Bool.false_eq_true, if_false]
      exact wpAny_pure ⟨rfl, rfl, fun x hx => all x (List.mem_cons_of_mem _ hx)⟩
    | false =>
      simp only [Bool.not_false, if_true]
      exact wpAny_pure (wpAny_pure (q _))
  · obtain ⟨r1, r2⟩ := r
    obtain ⟨e, rfl, _⟩ := hz
    simp only at e; subst e
    exact wpAny_pure (q _)
/-- a search among tuples is not seen -/
theorem unseen (M : Mild knd) {ks : List κ} {b : Addr} {Q : Bool → Shared → Prop} (hb : IsTupleKey knd s.heap ks b) {ys : List Value} (hy : ∀ y ∈ ys, ∃ ls c, y = Value.ref c ∧ IsTupleKey knd s.heap ls c) (q : Q false s) :
    wpAny (model P w) A (searchCouldBeSeen (.ref b) ys) Q E s := by
  unfold searchCouldBeSeen
  refine wpAny_bind ?_
  refine wpAny_forIn_list _ (fun l r z => r.1 = none ∧ z = s ∧ ∀ y ∈ l, ∃ ls c, y = Value.ref c ∧ IsTupleKey knd s.heap ls c) _ (fun u l r z hz => ?_) (fun r z hz => ?_) _ _ ⟨rfl, rfl, hy⟩
  · obtain ⟨_, rfl, all⟩ := hz
    obtain ⟨ls, c, rfl, hc⟩ := all u List.mem_cons_self
    have all' := fun x hx => all x (List.mem_cons_of_mem _ hx)
    dsimp only
    by_cases same : (b == c || (carriedByValue (.ref b) && carriedByValue (.ref c))) = true
    · exact wp_if_pos same (wpAny_pure ⟨rfl, rfl, all'⟩)
    · refine wp_if_neg same (wpAny_bind (wpAny_eqIsQuiet_tuple hb ?_)); simp only [Bool.not_true, Bool.false_eq_true, if_false]
      refine wpAny_bind (wpAny_eqIsQuiet_tuple hc ?_); simp only [Bool.not_true, Bool.false_eq_true, if_false]
      refine wpAny_bind (ask_cls M hb ?_); simp only [Bool.false_eq_true, if_false]
      refine wpAny_bind (ask_cls M hc ?_); simp only [Bool.false_eq_true, if_false]
      exact wpAny_pure ⟨rfl, rfl, all'⟩
  · obtain ⟨r1, r2⟩ := r
    obtain ⟨e, rfl, _⟩ := hz
    simp only at e; subst e
    exact wpAny_pure q

/-! ### a set of tuples: where they stand, and their items -/
abbrev Mem (κ : Type) := Addr × List κ
abbrev hs (knd : KeyKind P w κ) (x : Mem κ) : Int := tupleKeyHash knd x.2
abbrev row (knd : KeyKind P w κ) (x : Mem κ) : Int × Value := (hs knd x, Value.ref x.1)
structure Held (knd : KeyKind P w κ) (h : Heap) (S : Addr) (L : List (Mem κ)) (es : Array (Int × Value)) (ep : Nat) (t : SetTable) : Prop where
  obj : ∃ o, h.get? S = some o ∧ o.ExactSet ∧ o.data = .set es ep t
  eq : es.toList = L.map (row knd)
  tab : TabB t (L.map (hs knd))
  nd : (L.map (·.2)).Nodup
  all : ∀ x ∈ L, IsTupleKey knd h x.2 x.1
  led : w.params.followText "set-order" = true ∨ t.led = true
  rm : L.length * 5 < t.mask * 3
  few : L.length < 256
variable {S : Addr} {L : List (Mem κ)} {es : Array (Int × Value)} {ep : Nat} {t : SetTable}
theorem rows_size (e : es.toList = L.map (row knd)) : es.size = L.length := by
  rw [← Array.length_toList, e, List.length_map]
theorem rows_at (e : es.toList = L.map (row knd)) {i : Nat} {x : Mem κ} (h : L[i]? = some x) : es[i]? = some (row knd x) := by
  rw [← Array.getElem?_toList, e, List.getElem?_map, h]; rfl
theorem Held.fit (R : Held knd s.heap S L es ep t) : t.fits es.size = true := by
  have z1 := R.tab.sz
  have z2 := rows_size R.eq
  have z3 := R.rm
  rw [List.length_map] at z1
  unfold SetTable.fits SetTable.fill
  rw [R.tab.dm, Bool.and_eq_true, beq_iff_eq, decide_eq_true_eq]
  exact ⟨by omega, by show t.place.size + 0 ≤ t.mask; omega⟩
theorem Held.stays (R : Held knd s.heap S L es ep t) : ¬ t.gaveWay = true := by
  unfold SetTable.gaveWay
  rw [R.tab.mok.odd]; decide
/-- the c-th step of a hash's way -/
abbrev stp (m : Nat) (h : Int) (c : Nat) : SetTable.Probe := nth m (runAt m (SetTable.bits h % (m + 1)) (SetTable.bits h)) c
theorem stp_add (m : Nat) (h : Int) (c q : Nat) : nth m (stp m h c) q = stp m h (c + q) := (nth_add m c _ q).symm
theorem stp_dummy (m : Nat) (h : Int) (c : Nat) : (stp m h c).dummy = none := by
  have go : ∀ (n : Nat) (p : SetTable.Probe), p.dummy = none → (nth m p n).dummy = none := by
    intro n
    induction n with
    | zero => exact fun _ e => e
    | succ n ih => exact fun p e => ih _ (by unfold adv; split <;> exact e)
  exact go c _ rfl
/-- the search, from the c-th step on: K is the first empty slot's -/
theorem seek (M : Mild knd) (R : Held knd s.heap S L es ep t) {x : Addr} {ks : List κ} (hx : IsTupleKey knd s.heap ks x) (hu : A.units < cLine) {g : Int} (hg : g = tupleKeyHash knd ks) {K : Nat} (lim : K < 10 * SetTable.turns t.mask)
    (free : way t.mask g K ∉ t.place.toList) (busy : ∀ c, c < K → way t.mask g c ∈ t.place.toList) {Q : SetFound → Shared → Prop}
    (q1 : ks ∈ L.map (·.2) → Q (.there none) s) (q2 : ks ∉ L.map (·.2) → Q (.free (way t.mask g K) false) s) :
    ∀ (f c : Nat) (at' : Option SetTable.Probe), at'.getD (t.probeStart g) = stp t.mask g c → c ≤ K → K - c < f →
      (∀ (i : Nat) (y : Mem κ), L[i]? = some y → y.2 = ks → ∃ d, c ≤ d ∧ d < K ∧ t.place.toList[i]? = some (way t.mask g d)) →
      wpAny (model P w) A (setSearchFrom S (.ref x) g true f at') Q E s := by
  obtain ⟨o, o1, o2, o3⟩ := R.obj
  intro f
  induction f with
  | zero => exact fun c at' _ _ z _ => absurd z (Nat.not_lt_zero _)
  | succ f ih =>
    intro c at' hat hc hf hre
    rw [setSearchFrom_succ]
    refine wpAny_bind (wpAny_setState_of o1 o3 R.fit ?_)
    dsimp only
    refine wp_if_neg R.stays ?_
    try refine wpAny_bind (wpAny_pure ?_)
    have jq : ∀ q, (nth t.mask (stp t.mask g c) q).j = way t.mask g (c + q) := fun q => congrArg SetTable.Probe.j (stp_add t.mask g c q)
    have hof : ∀ (i : Nat) (y : Mem κ), L[i]? = some y → (fun i => (es[i]?.map (·.1)).getD 0) i = tupleKeyHash knd y.2 := fun i y hy => by
      show (es[i]?.map (·.1)).getD 0 = _
      rw [rows_at R.eq hy]; rfl
    have way2 := go_spec t R.tab.ris R.tab.dm (fun i => (es[i]?.map (·.1)).getD 0) g (10 * SetTable.turns t.mask) (K - c) (stp t.mask g c) (stp_dummy _ _ _) (by omega)
      (fun q hq => jq q ▸ busy (c + q) (by omega)) (by rw [jq, show c + (K - c) = K by omega]; exact free)
    rcases way2 with ⟨q, i, hq, hi, _, hno, hpr⟩ | ⟨hno, hpr⟩
    · have met : t.probe (fun i => (es[i]?.map (·.1)).getD 0) g (at'.getD (t.probeStart g)) = some (.candidate (way t.mask g (c + q)) i (stp t.mask g (c + (q + 1)))) := by
        rw [hat, ← jq, ← stp_add]; exact hpr
      rw [met]
      dsimp only
      rw [jq] at hi
      have il : i < L.length := by
        have z1 := (List.getElem?_eq_some_iff.mp hi).1
        have z2 := R.tab.sz
        rw [List.length_map] at z2
        rw [Array.length_toList] at z1; omega
      obtain ⟨y, hy⟩ : ∃ y, L[i]? = some y := ⟨_, List.getElem?_eq_getElem il⟩
      have ym := List.mem_of_getElem? hy
      have live : t.slot (way t.mask g (c + q)) = .live i := slot_live R.tab.ris hi
      have behind : wpAny (model P w) A (searchRest S (.ref x) g true f es t (way t.mask g (c + q)) i (stp t.mask g (c + (q + 1)))) Q E s := by
        unfold searchRest
        rw [rows_at R.eq hy]
        dsimp only
        refine wpAny_bind (wpAny_holding (wpAny_eqBool_tuple hu (R.all y ym) hx ?_))
        refine wpAny_bind (wpAny_setState_of o1 o3 R.fit ?_)
        dsimp only
        by_cases yk : y.2 = ks
        · exact wp_if_pos (by simp [yk]) (wpAny_pure (q1 (List.mem_map.mpr ⟨y, ym, yk⟩)))
        · refine wp_if_neg (by simp [yk]) ?_
          try refine wpAny_bind (wpAny_pure ?_)
          rw [L2.sameMem]
          dsimp only
          simp only [if_true, live, rows_at R.eq hy]
          refine wpAny_bind (wpAny_isSame_ref_self (wpAny_bind (wpAny_pure ?_)))
          simp only [if_true]
          refine wp_if_neg (by simp [yk]) (ih (c + (q + 1)) _ rfl (by omega) (by omega) fun i' y' h1 h2 => ?_)
          obtain ⟨d, d1, d2, d3⟩ := hre i' y' h1 h2
          refine ⟨d, ?_, d2, d3⟩
          rcases Nat.lt_trichotomy d (c + q) with z | z | z
          · exact absurd ((hof i' y' h1).trans (by rw [h2, hg])) (hno (d - c) i' (by omega) (by rw [jq, show c + (d - c) = d by omega]; exact d3))
          · rw [z] at d3
            have l2 := slot_live R.tab.ris d3
            rw [live] at l2
            injection l2 with l2
            rw [← l2, hy] at h1
            cases h1
            exact absurd h2 yk
          · omega
      by_cases hl : t.led = true
      · refine wp_if_neg (by simp [hl]) ?_
        try refine wpAny_bind (wpAny_pure ?_)
        exact behind
      · refine wp_if_pos (by simp [hl]) (wpAny_bind (unseen M hx (fun y hy => ?_) ?_))
        · obtain ⟨e, he, rfl⟩ := List.mem_map.mp hy
          have he : e ∈ es.toList := by
            have : e ∈ es ∧ e.1 = g := by simpa using he
            simpa using this.1
          rw [R.eq] at he
          obtain ⟨z, hz, rfl⟩ := List.mem_map.mp he
          exact ⟨z.2, z.1, rfl, R.all z hz⟩
        · refine wp_if_neg (by decide) ?_
          try refine wpAny_bind (wpAny_pure ?_)
          exact behind
    · have met : t.probe (fun i => (es[i]?.map (·.1)).getD 0) g (at'.getD (t.probeStart g)) = some (.empty (way t.mask g K) none) := by
        have e : way t.mask g K = (nth t.mask (stp t.mask g c) (K - c)).j := by rw [jq, show c + (K - c) = K by omega]
        rw [hat, e]; exact hpr
      rw [met]
      dsimp only
      refine wpAny_pure (q2 fun hm => ?_)
      obtain ⟨y, hy, hk⟩ := List.mem_map.mp hm
      obtain ⟨i, hi, e⟩ := List.getElem_of_mem hy
      have hy : L[i]? = some y := by rw [List.getElem?_eq_getElem hi, e]
      obtain ⟨d, d1, d2, d3⟩ := hre i y hy hk
      exact hno (d - c) i (by omega) (by rw [jq, show c + (d - c) = d by omega]; exact d3) ((hof i y hy).trans (by rw [hk, hg]))
/-- .. as adding asks for it -/
theorem seek_add (M : Mild knd) (R : Held knd s.heap S L es ep t) {x : Addr} {ks : List κ} (hx : IsTupleKey knd s.heap ks x) (hu : A.units < cLine) {Q : SetFound → Shared → Prop} (q1 : ks ∈ L.map (·.2) → Q (.there none) s)
    (q2 : ∀ K, ks ∉ L.map (·.2) → way t.mask (tupleKeyHash knd ks) K ∉ t.place.toList → (∀ c, c < K → way t.mask (tupleKeyHash knd ks) c ∈ t.place.toList) → Q (.free (way t.mask (tupleKeyHash knd ks) K) false) s) :
    wpAny (model P w) A (setSearch S (.ref x) (tupleKeyHash knd ks) true) Q E s := by
  have rm := R.rm
  obtain ⟨K, lim, free, busy⟩ := R.tab.first (by rw [List.length_map]; omega) (tupleKeyHash knd ks)
  have small : 10 * SetTable.turns t.mask ≤ 5260 := by
    have := R.tab.mok.le
    unfold SetTable.turns
    omega
  unfold setSearch
  refine seek M R hx hu rfl lim free busy q1 (fun no => q2 K no free busy) 100000 0 none rfl (Nat.zero_le _) (by omega) fun i y hy hk => ?_
  have il : i < t.place.toList.length := by
    have z1 := (List.getElem?_eq_some_iff.mp hy).1
    have z2 := R.tab.sz
    rw [List.length_map] at z2
    rw [Array.length_toList]; omega
  obtain ⟨d, d1, d2⟩ := R.tab.before free (i := i) (by rw [List.getElem?_map, hy, ← hk]; rfl) (List.getElem?_eq_getElem il)
  exact ⟨d, Nat.zero_le _, d1, by rw [List.getElem?_eq_getElem il, d2]⟩
theorem other {h h' : Heap} {ks : List κ} {b : Addr} {o : Obj} (hb : IsTupleKey knd h ks b) (ho : h.get? S = some o) (hd : o.data = .set es ep t) (sb : Heap.SameBut S h h') : IsTupleKey knd h' ks b := by
  obtain ⟨u, its, m, g1, g2, g3, g4⟩ := hb
  refine ⟨u, its, m, (sb.2 b fun e => ?_).trans g1, g2, g3, g4⟩
  rw [e, ho] at g1
  cases g1
  rw [hd] at g3
  cases g3
/-- rows taken in another order -/
theorem reorder (e : es.toList = L.map (row knd)) (ord : Array Nat) (hp : ord.toList.Perm (List.range L.length)) :
    ∃ L2 : List (Mem κ), (ord.filterMap (es[·]?)).toList = L2.map (row knd) ∧ L2.Perm L ∧ L2.map (hs knd) = ord.toList.map fun i => (es.map (·.1)).getD i 0 := by
  have go : ∀ l : List Nat, (∀ i ∈ l, i < L.length) → l.filterMap (es[·]?) = (l.filterMap (L[·]?)).map (row knd) ∧ (l.filterMap (L[·]?)).map (hs knd) = l.map fun i => (es.map (·.1)).getD i 0 := by
    intro l
    induction l with
    | nil => exact fun _ => ⟨rfl, rfl⟩
    | cons i l ih =>
      intro hl
      have hi := hl i List.mem_cons_self
      have a1 := List.getElem?_eq_getElem hi
      have a2 := rows_at e a1
      obtain ⟨b1, b2⟩ := ih fun j hj => hl j (List.mem_cons_of_mem _ hj)
      rw [List.filterMap_cons_some a1, List.filterMap_cons_some a2, b1, List.map_cons, List.map_cons, b2, List.map_cons]
      refine ⟨rfl, ?_⟩
      congr 1
      rw [Array.getD_eq_getD_getElem?, Array.getElem?_map, a2]; rfl
  obtain ⟨b1, b2⟩ := go ord.toList fun i hi => List.mem_range.mp (hp.mem_iff.mp hi)
  refine ⟨ord.toList.filterMap (L[·]?), by rw [Array.toList_filterMap]; exact b1, ?_, b2⟩
  have up : ∀ n, n ≤ L.length → (List.range n).filterMap (L[·]?) = L.take n := by
    intro n
    induction n with
    | zero => exact fun _ => rfl
    | succ n ih =>
      intro hn
      rw [List.range_succ, List.filterMap_append, ih (Nat.le_of_lt hn), List.take_add_one, List.getElem?_eq_getElem hn]
      rw [List.filterMap_cons_some (List.getElem?_eq_getElem hn)]; rfl
  have := hp.filterMap (L[·]?)
  rwa [up L.length (Nat.le_refl _), List.take_length] at this
end
end MS

set_option Elab.async false
set_option linter.all false
set_option maxRecDepth 100000
set_option maxHeartbeats 4000000
/-! MS2: adding to a set of tuples, set(xs), len(set(xs)). -/
namespace MS
open PySem PySem.Spec PyProof.Rows L2
section
variable {P : Program} {w : World} {κ : Type} [DecidableEq κ] {knd : KeyKind P w κ} {A : Around} {E : Value → Shared → Prop} {s : Shared}
variable {S : Addr} {L : List (Mem κ)} {es : Array (Int × Value)} {ep : Nat} {t : SetTable}
theorem tab_same {t t' : SetTable} {l : List Int} (T : TabB t l) (e1 : t'.mask = t.mask) (e2 : t'.place = t.place) (e3 : t'.dummies = t.dummies) : TabB t' l := by
  obtain ⟨a1, a2, a3, a4, a5, a6⟩ := T
  exact ⟨by rw [e2]; exact a1, by rw [e3]; exact a2, by rw [e2]; exact a3, by rw [e1]; exact a4, by rw [e1, e2]; exact a5, by rw [e1, e2]; exact a6⟩
/-- the table laid anew -/
theorem grow {o : Obj} (o1 : s.heap.get? S = some o) (o2 : o.ExactSet) (o3 : o.data = .set es ep t) (eq : es.toList = L.map (row knd)) (pz : t.place.size = es.size) (dm : t.dummies = #[]) (le : es.size ≤ t.mask) (nd : (L.map (·.2)).Nodup)
    (all : ∀ x ∈ L, IsTupleKey knd s.heap x.2 x.1) (led : w.params.followText "set-order" = true ∨ t.led = true) (few : L.length < 256) {n m : Nat} (hm : SetTable.sizeAbove n - 1 = m) (ok : MaskB m) (h128 : SetTable.sizeAbove n ≤ 512) (rm : L.length * 5 < m * 3)
    {Q : Unit → Shared → Prop} (q : ∀ h' L' es' ep' t', Heap.SameBut S s.heap h' → Held knd h' S L' es' ep' t' → L'.Perm L → Q () { s with heap := h' }) : wpAny (model P w) A (setRelay S n) Q E s := by
  have sz := rows_size eq
  have fit : t.fits es.size = true := by
    unfold SetTable.fits SetTable.fill
    rw [dm, Bool.and_eq_true, beq_iff_eq, decide_eq_true_eq]
    exact ⟨pz, by show t.place.size + 0 ≤ t.mask; omega⟩
  obtain ⟨t', ord, r1, r2, T, r3, r4⟩ := laidB t (hs := es.map (·.1)) (wanted := n) hm ok (by rw [Array.size_map]; omega)
  rw [Array.size_map, sz] at r2
  obtain ⟨L2, c1, c2, c3⟩ := reorder eq ord r2
  rw [← c3] at T
  have sz2 : (ord.filterMap (es[·]?)).size = es.size := by rw [rows_size c1, c2.length_eq, sz]
  rw [setRelay_eq]
  refine wpAny_bind (wpAny_setState_of o1 o3 fit ?_)
  dsimp only
  refine wp_if_neg (by rw [sizeLine_eq]; omega) ?_
  try refine wpAny_bind (wpAny_pure ?_)
  rw [r1]
  dsimp only
  refine wpAny_bind (wp_if_neg (by rw [sz2]; simp) ?_)
  first | refine wpAny_bind (wpAny_pure (wpAny_pure ?_)) | refine wpAny_pure ?_
  dsimp only
  refine wpAny_storeSet_of o1 o3 ?_ (by rw [sz2, sz, sizeLine_eq]; omega)
  have sb : Heap.SameBut S s.heap (s.heap.update S (Obj.putSet (ord.filterMap (es[·]?)) t')) := Heap.SameBut.update ..
  exact q _ L2 _ (ep + 1) t' sb ⟨⟨_, store_at o1 o3, ⟨o2.1, o2.2.1, o2.2.2⟩, rfl⟩, c1, T, (c2.map (·.2)).nodup_iff.mpr nd, fun x hx => other (all x (c2.mem_iff.mp hx)) o1 o3 sb, by rw [r4]; exact led, by rw [c2.length_eq, r3]; exact rm, by rw [c2.length_eq]; exact few⟩ c2
/-- one more, or none -/
theorem put1 (M : Mild knd) (R : Held knd s.heap S L es ep t) {x : Addr} {ks : List κ} (hx : IsTupleKey knd s.heap ks x) (hu : A.units < cLine) (few : L.length + 1 < 256) {Q : Bool → Shared → Prop}
    (q : ∀ b h' L' es' ep' t', Heap.SameBut S s.heap h' → Held knd h' S L' es' ep' t' → (ks ∈ L.map (·.2) → L' = L) → (ks ∉ L.map (·.2) → L'.Perm ((x, ks) :: L)) → Q b { s with heap := h' }) :
    wpAny (model P w) A (setAddHashed S (.ref x) (tupleKeyHash knd ks)) Q E s := by
  obtain ⟨o, o1, o2, o3⟩ := R.obj
  have sz := rows_size R.eq
  have rm := R.rm
  unfold setAddHashed
  refine wpAny_holding ?_
  rw [show (100000 : Nat) = 99999 + 1 from rfl, setAddHashedIn_succ]
  refine wpAny_bind (wpAny_setState_of o1 o3 R.fit ?_)
  dsimp only
  refine wp_if_neg (by simp [byScan, Value.scannable]) ?_
  try refine wpAny_bind (wpAny_pure ?_)
  refine wpAny_bind (seek_add M R hx hu (fun hm => ?_) fun K no free busy => ?_)
  · exact wpAny_pure (q false _ L es ep t (Heap.SameBut.refl S s.heap) R (fun _ => rfl) fun z => absurd hm z)
  dsimp only
  refine wpAny_bind (wpAny_setState_of o1 o3 R.fit ?_)
  dsimp only
  obtain ⟨p3, p9⟩ := R.tab.put free busy rfl
  have p1 : (t.put (way t.mask (tupleKeyHash knd ks) K)).2 = SetTable.below t.place (way t.mask (tupleKeyHash knd ks) K) := rfl
  have p4 : (t.put (way t.mask (tupleKeyHash knd ks) K)).1.mask = t.mask := rfl
  have p5 : (t.put (way t.mask (tupleKeyHash knd ks) K)).1.led = t.led := rfl
  generalize hpt : t.put (way t.mask (tupleKeyHash knd ks) K) = pt at p1 p3 p4 p5 p9 ⊢
  obtain ⟨t1, pl⟩ := pt
  dsimp only at p1 p3 p4 p5 p9 ⊢
  subst p1
  have ask : ∀ {F : Bool → Sem Bool}, (∀ v, wpAny (model P w) A (F v) Q E s) → wpAny (model P w) A (if t1.plain = true then hashByValue 8 (.ref x) >>= F else pure true >>= F) Q E s := fun {F} h => by
    by_cases c : t1.plain = true
    · exact wp_if_pos c (wpAny_bind (ask_val M hx h))
    · exact wp_if_neg c (wpAny_bind (wpAny_pure (h true)))
  refine ask fun v => ?_
  obtain ⟨t2, ht2, f1, f2, f3, f4, f5⟩ : ∃ t2, (if v = true then t1 else { t1 with plain := false }) = t2 ∧ t2.mask = t1.mask ∧ t2.place = t1.place ∧ t2.dummies = t1.dummies ∧ t2.led = t1.led ∧ t2.fill = t1.fill := by
    refine ⟨_, rfl, ?_⟩
    split <;> exact ⟨rfl, rfl, rfl, rfl, rfl⟩
  rw [ht2]
  replace p3 := tab_same p3 f1 f2 f3
  rw [← f1] at p4
  rw [← f4] at p5
  rw [← f5] at p9
  have nw : (SetTable.insertAt es (SetTable.below t.place (way t.mask (tupleKeyHash knd ks) K)) (tupleKeyHash knd ks, Value.ref x)).toList = (L.take (SetTable.below t.place (way t.mask (tupleKeyHash knd ks) K)) ++ (x, ks) :: L.drop (SetTable.below t.place (way t.mask (tupleKeyHash knd ks) K))).map (row knd) := by
    rw [SetTable.toList_insertAt, R.eq, List.map_append, List.map_cons, List.map_take, List.map_drop]
  generalize SetTable.below t.place (way t.mask (tupleKeyHash knd ks) K) = i at p3 nw ⊢
  have pm := L2.put_perm L i (x, ks)
  have hl : (L.take i ++ (x, ks) :: L.drop i).length = L.length + 1 := pm.length_eq
  have mh : (L.take i ++ (x, ks) :: L.drop i).map (hs knd) = (L.map (hs knd)).take i ++ tupleKeyHash knd ks :: (L.map (hs knd)).drop i := by
    rw [List.map_append, List.map_cons, List.map_take, List.map_drop]
  rw [← mh] at p3
  have nd1 : ((L.take i ++ (x, ks) :: L.drop i).map (·.2)).Nodup := (pm.map (·.2)).nodup_iff.mpr (by rw [List.map_cons]; exact List.nodup_cons.mpr ⟨no, R.nd⟩)
  have sz1 := rows_size nw
  rw [hl] at sz1
  generalize SetTable.insertAt es i (tupleKeyHash knd ks, Value.ref x) = es1 at nw sz1 ⊢
  generalize L.take i ++ (x, ks) :: L.drop i = L1 at pm hl p3 nd1 nw
  refine wpAny_bind (wpAny_storeSet_of o1 o3 ?_ (by rw [sz1, sizeLine_eq]; omega))
  have sb : Heap.SameBut S s.heap (s.heap.update S (Obj.putSet es1 t2)) := Heap.SameBut.update ..
  have n1 := store_at (es' := es1) (t' := t2) o1 o3
  generalize s.heap.update S (Obj.putSet es1 t2) = h1 at sb n1 ⊢
  have all1 : ∀ y ∈ L1, IsTupleKey knd h1 y.2 y.1 := fun y hy => (List.mem_cons.mp (pm.mem_iff.mp hy)).elim (fun e => by rw [e]; exact other hx o1 o3 sb) fun hy => other (R.all y hy) o1 o3 sb
  have led1 : w.params.followText "set-order" = true ∨ t2.led = true := by rw [p5]; exact R.led
  by_cases full : t2.tooFull = true
  · first
      | (refine wpAny_bind ?_; refine wp_if_pos (by simp [full]) ?_)
      | (refine wp_if_pos (by simp [full]) ?_; refine wpAny_bind ?_)
    have much : (L.length + 1) * 5 ≥ t2.mask * 3 := by
      have z := full
      unfold SetTable.tooFull at z
      rw [decide_eq_true_eq, p9, List.length_map] at z
      exact z
    rw [sz]
    have psz : t2.place.size = es1.size := by
      have z := p3.sz
      rw [List.length_map, hl] at z
      rw [z, sz1]
    have two : (t.mask = 7 ∧ L.length = 4) ∨ (t.mask = 31 ∧ L.length = 18) ∨ (t.mask = 127 ∧ L.length = 76) := by
      rw [p4] at much
      have few := R.few
      rcases R.tab.mok with (e | e | e) | e <;> rw [e] at much rm <;> omega
    have go : ∀ m, SetTable.sizeAbove (SetTable.grown (L.length + 1)) - 1 = m → MaskB m → SetTable.sizeAbove (SetTable.grown (L.length + 1)) ≤ 512 → (L.length + 1) * 5 < m * 3 →
        wpAny (model P w) A (setRelay S (SetTable.grown (L.length + 1))) (fun _ z => wpAny (model P w) A (pure true) Q E z) E { s with heap := h1 } := fun m m1 m2 m3 m4 => by
      refine grow (s := { s with heap := h1 }) n1 ⟨o2.1, o2.2.1, o2.2.2⟩ rfl nw psz p3.dm (by rw [sz1, p4]; rcases two with ⟨e, e2⟩ | ⟨e, e2⟩ | ⟨e, e2⟩ <;> omega) nd1 all1 led1 (by rw [hl]; exact few) m1 m2 m3 (by rw [hl]; exact m4) fun h2 L2 es2 ep2 t3 sb2 R2 pm2 => ?_
      exact wpAny_pure (q true h2 L2 es2 ep2 t3 (sb.trans sb2) R2 (fun z => absurd z no) fun _ => pm2.trans pm)
    rcases two with ⟨_, e⟩ | ⟨_, e⟩ | ⟨_, e⟩
    · exact go 31 (by rw [e, size_20]) (.inl (.inr (.inl rfl))) (by rw [e, size_20]; decide) (by omega)
    · exact go 127 (by rw [e, size_76]) (.inl (.inr (.inr rfl))) (by rw [e, size_76]; decide) (by omega)
    · exact go 511 (by rw [e, size_308]) (.inr rfl) (by rw [e, size_308]; decide) (by omega)
  · first
      | refine wp_if_neg (by simp [full]) ?_
      | (refine wpAny_bind ?_; refine wp_if_neg (by simp [full]) ?_; refine wpAny_pure ?_)
    refine wpAny_pure (q true h1 L1 es1 (ep + 1) t2 sb ⟨⟨_, n1, ⟨o2.1, o2.2.1, o2.2.2⟩, rfl⟩, nw, p3, nd1, all1, led1, ?_, by rw [hl]; exact few⟩ (fun z => absurd z no) fun _ => pm)
    have z := full
    unfold SetTable.tooFull at z
    rw [decide_eq_true_eq, p9, List.length_map] at z
    rw [hl]; omega

/-! ### set(xs) -/
/-- what came of the first i -/
structure Came (xs : List (Mem κ)) (i : Nat) (L : List (Mem κ)) : Prop where
  sub : ∀ x ∈ L, x ∈ xs.take i
  all : ∀ x ∈ xs.take i, x.2 ∈ L.map (·.2)
  len : L.length ≤ i
theorem Came.no (xs : List (Mem κ)) : Came xs 0 [] := ⟨(fun x h => nomatch h), (fun x h => by simp at h), Nat.le_refl _⟩
theorem Came.next {xs L L' : List (Mem κ)} {i : Nat} {x : Mem κ} (g : Came xs i L) (h : xs[i]? = some x) (c1 : x.2 ∈ L.map (·.2) → L' = L) (c2 : x.2 ∉ L.map (·.2) → L'.Perm (x :: L)) : Came xs (i + 1) L' := by
  have e : xs.take (i + 1) = xs.take i ++ [x] := by rw [List.take_add_one, h]; rfl
  by_cases c : x.2 ∈ L.map (·.2)
  · rw [c1 c]
    refine ⟨fun y hy => by rw [e]; exact List.mem_append_left _ (g.sub y hy), fun y hy => ?_, Nat.le_succ_of_le g.len⟩
    rw [e] at hy
    exact (List.mem_append.mp hy).elim (g.all y) fun z => by rw [List.mem_singleton.mp z]; exact c
  · have pm := c2 c
    refine ⟨fun y hy => ?_, fun y hy => ?_, by rw [pm.length_eq]; exact Nat.succ_le_succ g.len⟩
    · rw [e]
      exact (List.mem_cons.mp (pm.mem_iff.mp hy)).elim (fun z => List.mem_append_right _ (by rw [z]; exact List.mem_singleton.mpr rfl)) fun z => List.mem_append_left _ (g.sub y z)
    · rw [(pm.map (·.2)).mem_iff, List.map_cons]
      rw [e] at hy
      exact (List.mem_append.mp hy).elim (fun z => List.mem_cons_of_mem _ (g.all y z)) fun z => by rw [List.mem_singleton.mp z]; exact List.mem_cons_self
theorem key_keep {h h' : Heap} {ks : List κ} {b : Addr} (x : IsTupleKey knd h ks b) (k : ∀ c o, h.get? c = some o → h'.get? c = some o) : IsTupleKey knd h' ks b :=
  let ⟨o, its, n, ho, r⟩ := x; ⟨o, its, n, k b o ho, r⟩
theorem Held.move {h h' : Heap} (R : Held knd h S L es ep t) (a : ∀ o, h.get? S = some o → h'.get? S = some o) (b : ∀ x ∈ L, IsTupleKey knd h' x.2 x.1) : Held knd h' S L es ep t :=
  let ⟨o, ho, r⟩ := R.obj; ⟨⟨o, a o ho, r⟩, R.eq, R.tab, R.nd, b, R.led, R.rm, R.few⟩
abbrev freshT (w : World) : SetTable := .fresh 0 0 (!w.params.followText "set-order")
abbrev freshO (w : World) : Obj := { cls := .type "set", dict := none, data := .set #[] 0 (freshT w) }
theorem held_new {h : Heap} (ho : h.get? S = some (freshO w)) : Held knd h S [] #[] 0 (freshT w) where
  obj := ⟨_, ho, ⟨rfl, rfl, rfl⟩, rfl⟩
  eq := rfl
  tab := ⟨.nil, rfl, rfl, .inl (.inl rfl), (fun x hx => nomatch hx), (fun i h j hi => by simp at hi)⟩
  nd := List.nodup_nil
  all := fun x hx => nomatch hx
  led := by
    show _ ∨ (!w.params.followText "set-order") = true
    cases w.params.followText "set-order"
    · exact .inr rfl
    · exact .inl rfl
  rm := by show 0 * 5 < 7 * 3; decide
  few := by show 0 < 256; decide
end
end MS

set_option Elab.async false
set_option linter.all false
set_option maxRecDepth 100000
set_option maxHeartbeats 4000000
/-! MS3: set(xs) of a list of tuples; its length. -/
namespace MS
open PySem PySem.Spec PyProof.Rows L2
section
variable {P : Program} {w : World} {κ : Type} [DecidableEq κ] {knd : KeyKind P w κ} {A : Around} {E : Value → Shared → Prop} {s : Shared}
/-- the loop that fills it -/
theorem fills (M : Mild knd) {I : Addr} {fp wr : List Addr} {G : Array GenState → Array GenState → Prop} {n : Nat} {Pv : Nat → Value → Prop} {St : Nat → Shared → Prop} {R : Result → Shared → Prop} (Wk : WalksS P w A.in1 I fp wr G n Pv St)
    (S : Addr) (out : S ∉ fp) (xs : List (Mem κ)) (hn : n = xs.length) (few : xs.length < 256) (hv : ∀ i v, Pv i v → ∃ x, xs[i]? = some x ∧ v = .ref x.1)
    (h0 : Heap) (all : ∀ x ∈ xs, IsTupleKey knd h0 x.2 x.1) (new : h0.get? S = none) (nw : ∀ b ∈ wr, h0.get? b = none) (hu : A.in1.units < cLine) :
    ∀ (m i : Nat) (s : Shared), n - i = m → i ≤ n → St i s → (∀ b o, h0.get? b = some o → s.heap.get? b = some o) → (∃ L es ep t, Held knd s.heap S L es ep t ∧ Came xs i L) →
      (∀ z L es ep t, Moved (S :: wr) G s z → Held knd z.heap S L es ep t → Came xs n L → (∀ b o, h0.get? b = some o → z.heap.get? b = some o) → R (.ok (.ret .none)) z) →
      codeAny (model P w) A (.builtin "set.update.loop" ⟨[.ref S, .ref I], []⟩) R s := by
  have out' : S ∉ wr := fun z => out (Wk.sub _ z)
  have inS : ∀ b ∈ wr, b ∈ S :: wr := fun b z => List.mem_cons_of_mem _ z
  have stay : ∀ {s z : Shared}, Moved wr G s z → (∀ b o, h0.get? b = some o → s.heap.get? b = some o) → ∀ b o, h0.get? b = some o → z.heap.get? b = some o := fun mv k b o e =>
    mv.heap b o (fun y => by rw [nw b y] at e; cases e) (k b o e)
  intro m
  induction m with
  | zero =>
    intro i s hm hi st k ⟨L, es, ep, t, H, g⟩ fin
    obtain rfl : i = n := by omega
    refine codeAny_builtin F.entry_set_update_loop ?_
    rw [Around.under_plainId F.plain_set_update_loop _]
    show wpAny _ A.in1 (pyNext (Value.ref I) >>= _) _ _ s
    refine wpAny_bind (Wk.done s _ _ st fun z mv => ?_)
    show wpAny _ A.in1 (ret Value.none) _ _ z
    have k' := stay mv k
    exact wpAny_pure (fin z L es ep t (mv.mono inS) (H.move (fun o e => mv.heap S o out' e) fun x hx => key_keep (all x (List.mem_of_mem_take (g.sub x hx))) k') g k')
  | succ m ih =>
    intro i s hm hi st k ⟨L, es, ep, t, H, g⟩ fin
    have lt : i < n := by omega
    refine codeAny_builtin F.entry_set_update_loop ?_
    rw [Around.under_plainId F.plain_set_update_loop _]
    show wpAny _ A.in1 (pyNext (Value.ref I) >>= _) _ _ s
    refine wpAny_bind (Wk.item i s _ _ lt st fun v z pv st' mv => ?_)
    obtain ⟨x, hx, rfl⟩ := hv i v pv
    have k' := stay mv k
    have H' : Held knd z.heap S L es ep t := H.move (fun o e => mv.heap S o out' e) fun y hy => key_keep (all y (List.mem_of_mem_take (g.sub y hy))) k'
    have hx' : IsTupleKey knd z.heap x.2 x.1 := key_keep (all x (List.mem_of_getElem? hx)) k'
    show wpAny _ A.in1 (holding [Value.ref x.1] (setAdd S (Value.ref x.1)) >>= _) _ _ z
    refine wpAny_bind (wpAny_holding ?_)
    unfold setAdd
    refine wpAny_holding (wpAny_bind (wpAny_pyHash_tuple hu hx' ?_))
    refine put1 M (s := { z with toks := z.toks + (x.2.length + 1) }) H' hx' hu (by have := g.len; omega) fun b h' L' es' ep' t' sb H2 c1 c2 => ?_
    have k2 : ∀ b o, h0.get? b = some o → h'.get? b = some o := fun b o e => (sb.2 b (fun y => by rw [y, new] at e; cases e)).trans (k' b o e)
    refine wpAny_pure ⟨plainId_quiet F.plain_set_update_loop _, ih (i + 1) _ (by omega) lt (Wk.frame _ z _ _ st' (Nat.le_add_right _ _) fun b y o e => ?_) k2 ⟨L', es', ep', t', H2, g.next hx c1 c2⟩ fun z2 L2 es2 ep2 t2 mv2 H3 g3 k3 => ?_⟩
    · rw [sb.2 b fun e => out (e ▸ y)]; exact e
    · refine fin z2 L2 es2 ep2 t2 (Moved.trans Wk.gtrans ((mv.mono inS).then_heap (Nat.le_add_right _ _) fun b o y e => ?_) mv2) H3 g3 k3
      rw [sb.2 b fun e => y (e ▸ List.mem_cons_self)]; exact e
/-- set(xs) -/
theorem call_set (M : Mild knd) {l : Addr} {items : Array Value} (xs : List (Mem κ)) {Q : Value → Shared → Prop} (calm : A.handled = none) (hl : s.heap.IsList l items) (hi : items.toList = xs.map fun x => Value.ref x.1) (all : ∀ x ∈ xs, IsTupleKey knd s.heap x.2 x.1)
    (few : xs.length < 256) (hu : A.units + 3 < cLine)
    (q : ∀ (h' : Heap) (tk : Nat) L es ep t, Held knd h' s.heap.objs.size L es ep t → Came xs xs.length L → (∀ b o, s.heap.get? b = some o → h'.get? b = some o) → Q (.ref s.heap.objs.size) { s with heap := h', toks := tk }) :
    wpAny (model P w) A (call (.type "set") [.ref l]) Q E s := by
  have il : items.size = xs.length := by rw [← Array.length_toList, hi, List.length_map]
  obtain ⟨c, tl, mro⟩ := F.called_set.mro
  have m1 := F.called_set.made; have m2 := F.called_set.sub
  refine wpAny_call (codeAny_of_tree ?_)
  show wpAny _ _ (callAny (.type "set") _) _ _ _
  refine wpAny_pure ⟨Code.quiet_builtin _ (by decide +kernel), codeAny_builtin F.entry_type_call ?_⟩
  rw [Around.under_plain (weight_type_call_type "set" [.ref l] []) rfl]
  have m3 := F.called_set.notType; have m4 := F.called_set.canCreate; have m5 := F.typeCall_set_1 (.ref l)
  repeat (any_goals (first | assumption | wp_step))
  refine codeAny_mono (code_set_led1 (.ref l) (E := E) (Q₁ := fun v z => v = .ref s.heap.objs.size ∧ z = { s with heap := s.heap.push (freshO w) }) ⟨rfl, rfl⟩) fun r z hr => ?_
  cases r with
  | error e => exact hr
  | ok fl =>
    cases fl with
    | ret v =>
      obtain ⟨rfl, rfl⟩ := hr
      have n1 : (s.heap.push (freshO w)).get? s.heap.objs.size = some (freshO w) := Heap.get?_push_size _ rfl
      have n2 : Shared.TypeIs { s with heap := s.heap.push (freshO w) } (.ref s.heap.objs.size) "set" := ⟨_, n1, rfl⟩
      have m6 := F.called_set.init.lookup; have m7 := F.called_set.init.bind (.ref s.heap.objs.size)
      repeat (any_goals (first | assumption | wp_step))
      refine codeAny_mono (codeAny_call_builtin (R := wants (fun v z => v = .none ∧ ∃ h' tk L es ep t, z = { s with heap := h', toks := tk } ∧ Held knd h' s.heap.objs.size L es ep t ∧ Came xs xs.length L ∧ (∀ b o, s.heap.get? b = some o → h'.get? b = some o)) E)
        F.called_set.init.plain F.entry_set_init (check_set_init_1 n2 ?_)) fun r2 z2 hr2 => ?_
      · obtain ⟨⟨c0, d0, a0, s0⟩, g1, g2, k0, g3⟩ := hl
        simp only at g2 g3
        subst g2; subst g3
        have g4 : (s.heap.push (freshO w)).get? l = some { cls := .type "list", dict := d0, data := .seq items k0, slots := s0 } := Heap.get?_push_of_some _ g1
        have u1 := F.sub_list_set; have u2 := F.sub_list_frozenset
        have u3 : (Value.type "list" == Value.type "dict") = false := by decide
        have g5 : (s.heap.push (freshO w)).IsList l items := ⟨_, g4, rfl, k0, rfl⟩
        unfold Builtin.«set.__init__» noKeywords Builtin.Frozenset.updateFrom
        generalize hPI : pyIter = PI
        wp_walk
        subst hPI
        refine wpAny_pyIter_list g5 (wpAny_bind (wpAny_runValue ?_))
        have lS : l < s.heap.objs.size := Heap.lt_size g1
        have sz : (s.heap.push (freshO w)).objs.size = s.heap.objs.size + 1 := Heap.size_push ..
        have calm3 : A.in1.in1.in1.handled = none := by simp [calm]
        have lI : l ≠ (s.heap.push (freshO w)).objs.size := by rw [sz]; exact Nat.ne_of_lt (Nat.lt_succ_of_lt lS)
        have Sf : s.heap.objs.size ∉ [(s.heap.push (freshO w)).objs.size, l] := by
          rw [sz]; simp only [List.mem_cons, List.not_mem_nil, or_false, not_or]; exact ⟨Nat.ne_of_lt (Nat.lt_succ_self _), Nat.ne_of_gt lS⟩
        have hv : ∀ (i : Nat) (v : Value), items[i]? = some v → ∃ x, xs[i]? = some x ∧ v = .ref x.1 := fun i v e => by
          rw [← Array.getElem?_toList, hi, List.getElem?_map] at e
          cases e2 : xs[i]? with
          | none => rw [e2] at e; cases e
          | some x => rw [e2] at e; exact ⟨x, rfl, (Option.some.inj e).symm⟩
        have nothing : ∀ b, s.heap.objs.size ≤ b → s.heap.get? b = none := fun b y => by
          cases e : s.heap.get? b with
          | none => rfl
          | some o => exact absurd (Nat.lt_of_lt_of_le (Heap.lt_size e) y) (Nat.lt_irrefl _)
        refine fills M ((Walks.list calm3 _ l lI items).toS) s.heap.objs.size Sf xs il few hv s.heap all (nothing _ (Nat.le_refl _)) (fun b y => nothing _ (by rw [List.mem_singleton.mp y, sz]; exact Nat.le_succ _)) hu (items.size - 0) 0 _ (by omega) (Nat.zero_le _)
          ⟨⟨_, Heap.get?_push_size _ rfl, rfl, rfl⟩, (g5.push _)⟩ (fun b o e => Heap.get?_push_of_some _ (Heap.get?_push_of_some _ e)) ⟨[], #[], 0, _, held_new (Heap.get?_push_of_some _ n1), Came.no xs⟩ fun z L es ep t mv H g k => ?_
        obtain ⟨h', g', d', tk', os'⟩ := z
        obtain rfl : g' = s.gens := mv.gens
        obtain rfl : d' = s.drawn := mv.drawn
        obtain rfl : os' = s.os := mv.os
        show wpAny _ _ _ _ _ _
        refine wpAny_pure ?_
        show wpAny _ _ (ret Value.none) _ _ _
        rw [il] at g
        exact wpAny_pure ⟨rfl, h', tk', L, es, ep, t, rfl, H, g, k⟩
      · cases r2 with
        | error e => exact hr2
        | ok f2 =>
          cases f2 with
          | ret v =>
            obtain ⟨rfl, h', tk, L, es, ep, t, rfl, H, g, k⟩ := hr2
            repeat (any_goals (first | assumption | wp_step))
            exact q _ _ _ _ _ _ H g k
          | _ => exact hr2.elim
    | _ => exact hr.elim
/-- unlike ones that all stand in m: m is these and others -/
theorem sub_perm : ∀ {l m : List (List κ)}, l.Nodup → (∀ x ∈ l, x ∈ m) → ∃ r, m.Perm (l ++ r)
  | [], m, _, _ => ⟨m, .refl _⟩
  | x :: l, m, nd, h => by
    obtain ⟨n1, n2⟩ := List.nodup_cons.mp nd
    have hx := h x List.mem_cons_self
    obtain ⟨r, hr⟩ := sub_perm (l := l) (m := m.erase x) n2 fun y hy => (List.mem_erase_of_ne (fun e => n1 (by rw [← e]; exact hy))).mpr (h y (List.mem_cons_of_mem _ hy))
    exact ⟨r, (List.perm_cons_erase hx).trans (hr.cons x)⟩
/-- the keys of a set that has come of all -/
theorem came_keys {xs L : List (Mem κ)} (g : Came xs xs.length L) : ∀ k, k ∈ L.map (·.2) ↔ k ∈ xs.map (·.2) := fun k => by
  have ga := g.all; have gs := g.sub
  rw [List.take_length] at ga gs
  constructor
  · intro h
    obtain ⟨x, hx, rfl⟩ := List.mem_map.mp h
    exact List.mem_map.mpr ⟨x, gs x hx, rfl⟩
  · intro h
    obtain ⟨x, hx, rfl⟩ := List.mem_map.mp h
    exact ga x hx
/-- fewer than all just where one comes twice -/
theorem len_lt {l m : List (List κ)} (nd : l.Nodup) (h : ∀ k, k ∈ l ↔ k ∈ m) : l.length ≤ m.length ∧ (l.length = m.length ↔ m.Nodup) := by
  obtain ⟨r, hr⟩ := sub_perm nd fun x hx => (h x).mp hx
  have e := hr.length_eq
  rw [List.length_append] at e
  refine ⟨by omega, fun z => ?_, fun z => ?_⟩
  · have : r = [] := List.eq_nil_of_length_eq_zero (by omega)
    rw [this, List.append_nil] at hr
    exact hr.nodup_iff.mpr nd
  · obtain ⟨r', hr'⟩ := sub_perm z fun x hx => (h x).mpr hx
    have e' := hr'.length_eq
    rw [List.length_append] at e'
    omega
end
end MS

set_option Elab.async false
set_option linter.all false
set_option maxRecDepth 100000
set_option maxHeartbeats 4000000
/-! MSs: set(xs) of a list of texts, any number; its length. -/
namespace MS
open PySem PySem.Spec PyProof.Rows L2
section
variable {P : Program} {w : World} {A : Around} {E : Value → Shared → Prop} {s : Shared}
/-- the set at S holds just the texts of L -/
abbrev HoldT (P : Program) (w : World) (h : Heap) (S : Addr) (L : List Str) : Prop := h.SetOf (PySem.strKind P w) S (fun k => decide (k ∈ L)) L.length
theorem HoldT.move {h h' : Heap} {S : Addr} {L : List Str} (H : HoldT P w h S L) (e : ∀ o, h.get? S = some o → h'.get? S = some o) : HoldT P w h' S L := by
  obtain ⟨o, es, ep, t, ho, rest⟩ := H
  exact ⟨o, es, ep, t, e o ho, rest⟩
/-- the loop that fills it -/
theorem fillsT {I : Addr} {fp wr : List Addr} {G : Array GenState → Array GenState → Prop} {n : Nat} {Pv : Nat → Value → Prop} {St : Nat → Shared → Prop} {R : Result → Shared → Prop} (Wk : WalksS P w A.in1 I fp wr G n Pv St)
    (S : Addr) (out : S ∉ fp) (xs : List Str) (hn : n = xs.length) (few : xs.length < 256) (hv : ∀ i v, Pv i v → ∃ x t, xs[i]? = some x ∧ v = .str x t)
    (h0 : Heap) (new : h0.get? S = none) (nw : ∀ b ∈ wr, h0.get? b = none) :
    ∀ (m i : Nat) (s : Shared), n - i = m → i ≤ n → St i s → (∀ b o, h0.get? b = some o → s.heap.get? b = some o) → (∃ L : List Str, HoldT P w s.heap S L ∧ L.Nodup ∧ L.length ≤ i ∧ ∀ k, k ∈ L ↔ k ∈ xs.take i) →
      (∀ z (L : List Str), Moved (S :: wr) G s z → HoldT P w z.heap S L → L.Nodup → (∀ k, k ∈ L ↔ k ∈ xs) → L.length ≤ n → (∀ b o, h0.get? b = some o → z.heap.get? b = some o) → R (.ok (.ret .none)) z) →
      codeAny (model P w) A (.builtin "set.update.loop" ⟨[.ref S, .ref I], []⟩) R s := by
  have out' : S ∉ wr := fun z => out (Wk.sub _ z)
  have inS : ∀ b ∈ wr, b ∈ S :: wr := fun b z => List.mem_cons_of_mem _ z
  have stay : ∀ {s z : Shared}, Moved wr G s z → (∀ b o, h0.get? b = some o → s.heap.get? b = some o) → ∀ b o, h0.get? b = some o → z.heap.get? b = some o := fun mv k b o e =>
    mv.heap b o (fun y => by rw [nw b y] at e; cases e) (k b o e)
  intro m
  induction m with
  | zero =>
    intro i s hm hi st k ⟨L, H, nd, hl, g⟩ fin
    obtain rfl : i = n := by omega
    refine codeAny_builtin F.entry_set_update_loop ?_
    rw [Around.under_plainId F.plain_set_update_loop _]
    show wpAny _ A.in1 (pyNext (Value.ref I) >>= _) _ _ s
    refine wpAny_bind (Wk.done s _ _ st fun z mv => ?_)
    show wpAny _ A.in1 (ret Value.none) _ _ z
    exact wpAny_pure (fin z L (mv.mono inS) (H.move fun o e => mv.heap S o out' e) nd (fun k => by rw [g, hn, List.take_length]) hl (stay mv k))
  | succ m ih =>
    intro i s hm hi st k ⟨L, H, nd, hl, g⟩ fin
    have lt : i < n := by omega
    refine codeAny_builtin F.entry_set_update_loop ?_
    rw [Around.under_plainId F.plain_set_update_loop _]
    show wpAny _ A.in1 (pyNext (Value.ref I) >>= _) _ _ s
    refine wpAny_bind (Wk.item i s _ _ lt st fun v z pv st' mv => ?_)
    obtain ⟨x, t, hx, rfl⟩ := hv i v pv
    have k' := stay mv k
    have H' : HoldT P w z.heap S L := H.move fun o e => mv.heap S o out' e
    show wpAny _ A.in1 (holding [Value.str x t] (setAdd S (Value.str x t)) >>= _) _ _ z
    refine wpAny_bind (wpAny_holding ?_)
    unfold setAdd
    refine wpAny_holding ?_
    refine wpAny_bind ((PySem.strKind P w).pyHash (k := x) (strKind_is _ _ _ _) ?_)
    refine wpAny_setAddHashed_of (knd := PySem.strKind P w) (s := { z with toks := z.toks + 1 }) (strKind_is _ _ _ _) rfl H' (by show L.length + 1 < 4096; omega) fun h' sb H2 => ?_
    have tk : xs.take (i + 1) = xs.take i ++ [x] := by rw [List.take_add_one, hx]; rfl
    obtain ⟨L', H3, nd3, hl3, g3⟩ : ∃ L' : List Str, HoldT P w h' S L' ∧ L'.Nodup ∧ L'.length ≤ i + 1 ∧ ∀ k, k ∈ L' ↔ k ∈ xs.take (i + 1) := by
      by_cases hin : x ∈ L
      · refine ⟨L, SetOf_congr H2 (fun q => ?_) (by rw [if_pos (decide_eq_true hin)]), nd, by omega, fun q => ?_⟩
        · by_cases e : q = x
          · subst e; simp [hin]
          · simp [e]
        · rw [tk, List.mem_append, List.mem_singleton, ← g]
          exact ⟨.inl, fun z => z.elim id fun e => e ▸ hin⟩
      · refine ⟨L ++ [x], SetOf_congr H2 (fun q => ?_) (by rw [if_neg (by simpa using hin), List.length_append]; rfl), ?_, by rw [List.length_append]; simp; omega, fun q => ?_⟩
        · simp [Bool.decide_or]
        · rw [List.nodup_append]
          exact ⟨nd, by simp, fun a ha b hb e => hin (by rw [List.mem_singleton.mp hb] at e; rw [← e]; exact ha)⟩
        · rw [tk, List.mem_append, List.mem_append, g]
    have k2 : ∀ b o, h0.get? b = some o → h'.get? b = some o := fun b o e => (sb.2 b (fun y => by rw [y, new] at e; cases e)).trans (k' b o e)
    refine wpAny_pure ⟨plainId_quiet F.plain_set_update_loop _, ih (i + 1) _ (by omega) lt (Wk.frame _ z _ _ st' (Nat.le_succ _) fun b y o e => ?_) k2 ⟨L', H3, nd3, hl3, g3⟩ fun z2 L2 mv2 H4 nd4 g4 hl4 k3 => ?_⟩
    · rw [sb.2 b fun e => out (e ▸ y)]; exact e
    · refine fin z2 L2 (Moved.trans Wk.gtrans ((mv.mono inS).then_heap (Nat.le_succ _) fun b o y e => ?_) mv2) H4 nd4 g4 hl4 k3
      rw [sb.2 b fun e => y (e ▸ List.mem_cons_self)]; exact e
/-- set(xs) -/
theorem call_setT {l : Addr} {items : Array Value} (xs : List Str) {Q : Value → Shared → Prop} (calm : A.handled = none) (hl : s.heap.IsList l items) (hi : StrsAre items.toList xs) (few : xs.length < 256)
    (q : ∀ (h' : Heap) (tk : Nat) (L : List Str), HoldT P w h' s.heap.objs.size L → L.Nodup → (∀ k, k ∈ L ↔ k ∈ xs) → L.length ≤ xs.length → (∀ b o, s.heap.get? b = some o → h'.get? b = some o) → Q (.ref s.heap.objs.size) { s with heap := h', toks := tk }) :
    wpAny (model P w) A (call (.type "set") [.ref l]) Q E s := by
  have il : items.size = xs.length := by rw [← Array.length_toList]; exact StrsAre.len_eq hi
  obtain ⟨c, tl, mro⟩ := F.called_set.mro
  have m1 := F.called_set.made; have m2 := F.called_set.sub
  refine wpAny_call (codeAny_of_tree ?_)
  show wpAny _ _ (callAny (.type "set") _) _ _ _
  refine wpAny_pure ⟨Code.quiet_builtin _ (by decide +kernel), codeAny_builtin F.entry_type_call ?_⟩
  rw [Around.under_plain (weight_type_call_type "set" [.ref l] []) rfl]
  have m3 := F.called_set.notType; have m4 := F.called_set.canCreate; have m5 := F.typeCall_set_1 (.ref l)
  repeat (any_goals (first | assumption | wp_step))
  refine codeAny_mono (code_set_led1 (.ref l) (E := E) (Q₁ := fun v z => v = .ref s.heap.objs.size ∧ z = { s with heap := s.heap.push (freshO w) }) ⟨rfl, rfl⟩) fun r z hr => ?_
  cases r with
  | error e => exact hr
  | ok fl =>
    cases fl with
    | ret v =>
      obtain ⟨rfl, rfl⟩ := hr
      have n1 : (s.heap.push (freshO w)).get? s.heap.objs.size = some (freshO w) := Heap.get?_push_size _ rfl
      have n2 : Shared.TypeIs { s with heap := s.heap.push (freshO w) } (.ref s.heap.objs.size) "set" := ⟨_, n1, rfl⟩
      have m6 := F.called_set.init.lookup; have m7 := F.called_set.init.bind (.ref s.heap.objs.size)
      repeat (any_goals (first | assumption | wp_step))
      refine codeAny_mono (codeAny_call_builtin (R := wants (fun v z => v = .none ∧ ∃ h' tk L, z = { s with heap := h', toks := tk } ∧ HoldT P w h' s.heap.objs.size L ∧ L.Nodup ∧ (∀ k, k ∈ L ↔ k ∈ xs) ∧ L.length ≤ xs.length ∧ (∀ b o, s.heap.get? b = some o → h'.get? b = some o)) E)
        F.called_set.init.plain F.entry_set_init (check_set_init_1 n2 ?_)) fun r2 z2 hr2 => ?_
      · obtain ⟨⟨c0, d0, a0, s0⟩, g1, g2, k0, g3⟩ := hl
        simp only at g2 g3
        subst g2; subst g3
        have g4 : (s.heap.push (freshO w)).get? l = some { cls := .type "list", dict := d0, data := .seq items k0, slots := s0 } := Heap.get?_push_of_some _ g1
        have u1 := F.sub_list_set; have u2 := F.sub_list_frozenset
        have u3 : (Value.type "list" == Value.type "dict") = false := by decide
        have g5 : (s.heap.push (freshO w)).IsList l items := ⟨_, g4, rfl, k0, rfl⟩
        unfold Builtin.«set.__init__» noKeywords Builtin.Frozenset.updateFrom
        generalize hPI : pyIter = PI
        wp_walk
        subst hPI
        refine wpAny_pyIter_list g5 (wpAny_bind (wpAny_runValue ?_))
        have lS : l < s.heap.objs.size := Heap.lt_size g1
        have sz : (s.heap.push (freshO w)).objs.size = s.heap.objs.size + 1 := Heap.size_push ..
        have calm3 : A.in1.in1.in1.handled = none := by simp [calm]
        have lI : l ≠ (s.heap.push (freshO w)).objs.size := by rw [sz]; exact Nat.ne_of_lt (Nat.lt_succ_of_lt lS)
        have Sf : s.heap.objs.size ∉ [(s.heap.push (freshO w)).objs.size, l] := by
          rw [sz]; simp only [List.mem_cons, List.not_mem_nil, or_false, not_or]; exact ⟨Nat.ne_of_lt (Nat.lt_succ_self _), Nat.ne_of_gt lS⟩
        have hv : ∀ (i : Nat) (v : Value), items[i]? = some v → ∃ x t, xs[i]? = some x ∧ v = .str x t := fun i v e => by
          rw [← Array.getElem?_toList] at e
          obtain ⟨t, e2⟩ := SS.strs_at hi i v e
          have lt : i < xs.length := by
            have := (List.getElem?_eq_some_iff.mp e).1
            rw [Array.length_toList] at this
            omega
          exact ⟨xs[i], t, List.getElem?_eq_getElem lt, by rw [e2, List.getD_eq_getElem?_getD, List.getElem?_eq_getElem lt]; rfl⟩
        have nothing : ∀ b, s.heap.objs.size ≤ b → s.heap.get? b = none := fun b y => by
          cases e : s.heap.get? b with
          | none => rfl
          | some o => exact absurd (Nat.lt_of_lt_of_le (Heap.lt_size e) y) (Nat.lt_irrefl _)
        have new0 : HoldT P w ((s.heap.push (freshO w)).push { cls := .type "list_iterator", data := .fields #[.ref l, .int 0 0] }) s.heap.objs.size [] := by
          have hg := Heap.get?_push_of_some { cls := .type "list_iterator", data := .fields #[.ref l, .int 0 0] } n1
          exact SetOf_congr ((setObjOf_fresh (knd := PySem.strKind P w) _).setOf hg (by unfold scanBound; omega)) (fun _ => by simp) rfl
        refine fillsT ((Walks.list calm3 _ l lI items).toS) s.heap.objs.size Sf xs il few hv s.heap (nothing _ (Nat.le_refl _)) (fun b y => nothing _ (by rw [List.mem_singleton.mp y, sz]; exact Nat.le_succ _)) (items.size - 0) 0 _ (by omega) (Nat.zero_le _)
          ⟨⟨_, Heap.get?_push_size _ rfl, rfl, rfl⟩, (g5.push _)⟩ (fun b o e => Heap.get?_push_of_some _ (Heap.get?_push_of_some _ e)) ⟨[], new0, List.nodup_nil, Nat.le_refl _, fun k => by simp⟩ fun z L mv H nd g hl k => ?_
        obtain ⟨h', g', d', tk', os'⟩ := z
        obtain rfl : g' = s.gens := mv.gens
        obtain rfl : d' = s.drawn := mv.drawn
        obtain rfl : os' = s.os := mv.os
        show wpAny _ _ _ _ _ _
        refine wpAny_pure ?_
        show wpAny _ _ (ret Value.none) _ _ _
        exact wpAny_pure ⟨rfl, h', tk', L, rfl, H, nd, g, by omega, k⟩
      · cases r2 with
        | error e => exact hr2
        | ok f2 =>
          cases f2 with
          | ret v =>
            obtain ⟨rfl, h', tk, L, rfl, H, nd, g, hl, k⟩ := hr2
            repeat (any_goals (first | assumption | wp_step))
            exact q _ _ _ H nd g hl k
          | _ => exact hr2.elim
    | _ => exact hr.elim
end
end MS
namespace MP
open PySem PySem.Spec PyProof.Rows L2
section
variable {X : Cx}
/-- len(set(xs)), texts -/
def tLenSetX (K : PySem.W.Frag) (ta : TE) : TE := fun σ H Q => ta σ H fun x H1 => ∃ (l : Addr) (xs : List Str), x = V.ref l ∧ SqL K H1 l (xs.map V.str) ∧ xs.length < 256 ∧
  ∀ L : List Str, L.Nodup → (∀ k, k ∈ L ↔ k ∈ xs) → Q (.int L.length) H1
theorem pe_lenSetX {a : Expr} {ta : TE} {p p2 q pos : Pos} (hc : X.calm = true) (hg : Gl X "len") (hm : X.mg "len" = none) (hg2 : Gl X "set") (hm2 : X.mg "set" = none) (ha : PE X a ta)
    (na : starEach [a] X.env = (false, eval a X.env) :: starEach [] X.env) : PE X (.Call (.Name "len" p) [.Call (.Name "set" p2) [a] [] q] [] pos) (tLenSetX X.K ta) := by
  refine ⟨fun pins s σ H Q I h => ?_⟩
  refine Call_ (ld_blt I hg hm PySem.boot_len ?_)
  refine PyProof.Rows.callWith_builtin1 (PyProof.Rows.args_cons ?_ rfl) rfl rfl
  refine Call_ (ld_blt I hg2 hm2 PyProof.Rows.boot_set ?_)
  refine PyProof.Rows.callWith_type1 (PyProof.Rows.args_cons (thn (ha.run pins s σ H _ I h) fun v s1 ⟨x, H1, I1, r1, q1⟩ => PyProof.Rows.args_nil ?_) na) na rfl
  obtain ⟨l, xs, rfl, hl, few, q1⟩ := q1
  cases r1
  obtain ⟨its, rv, pl, hz⟩ := I1.list hl
  refine MS.call_setT xs (I1.ok.hd hc) pl.isList (by simpa using strsAre_of rv) few fun h' tk L R nd g hl k => ?_
  refine PyProof.Rows.args_nil ?_
  have I2 : Inv X pins σ H1 { s1 with heap := h', toks := tk } := I1.kept k
  obtain ⟨o, es, ep, t, ho, hex, hd, _, _, _, hf, hn⟩ := R
  exact call_len_set (s := { s1 with heap := h', toks := tk }) ho hex hd hf (by rw [hn]; omega) ⟨.int L.length, H1, I2.tok _, ⟨_, by rw [hn]⟩, q1 L nd g⟩
end
end MP

set_option Elab.async false
set_option linter.all false
set_option maxRecDepth 100000
set_option maxHeartbeats 4000000
/-! MP4e: list(d.values()) of a dict with tuples for keys; len(set(xs)), xs a list of tuples; min of four. -/
namespace MP
open PySem PySem.Spec PyProof.Rows L2
section
variable {X : Cx}
/-! ### list(d.values()) -/
def tVals (te : TE) : TE := fun σ H Q => te σ H fun x H1 => ∃ d kvs, x = .ref d ∧ Rd H1 d (.dT kvs) ∧ ∀ p, H1 p = none → Q (.ref p) (upd H1 p (.lst (kvs.map (·.2))))
theorem kt_vals {H : Hp} : ∀ {kvs : List (List Key × V)} {xs : List (List Key × Addr × Value)}, KT H kvs xs → Vals (kvs.map (·.2)) (xs.map fun x => x.2.2)
  | _, _, .nil => .nil
  | _, _, .cons h t => .cons h.2.2 (kt_vals t)
theorem pe_listVals {e : Expr} {te : TE} {p apos cpos pos : Pos} (hc : X.calm = true) (hg : Gl X "list") (hm : X.mg "list" = none) (he : PE X e te) (hb : attributeBase e "values" X.env (eval e X.env) = eval e X.env) (hl : (apos.endLine == cpos.line) = true) :
    PE X (.Call (.Name "list" p) [.Call (.Attribute e "values" apos) [] [] cpos] [] pos) (tVals te) := by
  refine ⟨fun pins s σ H Q I h => ?_⟩
  refine Call_ (ld_blt I hg hm PyProof.Rows.boot_list ?_)
  refine PyProof.Rows.callWith_type1 (PyProof.Rows.args_cons ?_ rfl) rfl rfl
  refine wpAny_Call_method (T := "dict") (id := "dict.values") hb rfl hl F.plainAttrs_dict F.slot_dict_values F.type_dict_values (thn (he.run pins s σ H _ I h) fun u s1 ⟨x, H1, I1, rx, d, kvs, ex, hd, q⟩ => ?_)
  subst ex
  obtain rfl : u = Value.ref d := rx
  obtain ⟨len, lo, xs, kt, o, es, ep, ho, ex, hdat, hes, hk, hn⟩ := dt_rd I1.hok hd
  have raw : s1.heap.DictRaw d es ep := ⟨o, ho, ex, hdat⟩
  have sz : es.size = kvs.length := by rw [← Array.length_toList, hes, List.length_map]; exact (Paired.length kt).symm
  refine ⟨raw.typeIs, fun b e => by cases e; exact ⟨o, ho, ex.2.1⟩, ?_⟩
  have raw2 : (s1.heap.push { cls := .type "dict_values", data := .fields #[.ref d] }).DictRaw d es ep := ⟨o, Heap.get?_push_of_some _ ho, ex, hdat⟩
  have view : (s1.heap.push { cls := .type "dict_values", data := .fields #[.ref d] }).IsValuesView s1.heap.objs.size d := ⟨_, Heap.get?_push_size _ rfl, rfl, rfl⟩
  show wpAny _ _ (callWith cpos (.builtin "dict.values") [.ref d] [] []) _ X.xe s1
  refine method_meetsIn F.slot_dict_values F.entry_dict_values rfl (PySem.evalArgs_none ⟨rfl, raw.typeIs, F.args_dict_values_1 _, _, meets_dict_values_raw d lo, ⟨es, ep, raw⟩, ?_⟩)
  refine PyProof.Rows.args_nil ?_
  refine PySem.W.kdl_call (s := { s1 with heap := s1.heap.push { cls := .type "dict_values", data := .fields #[.ref d] } }) (KdlSrc.rawValues (r := s1.heap.objs.size) (d := d) (es := es) (ep := ep)) (I1.ok.hd hc) ⟨view, raw2⟩ (by rw [sz]; exact len) fun h' tk acc' c' k hS ha => ?_
  have I2 : Inv X pins σ H1 { s1 with heap := s1.heap.push { cls := .type "dict_values", data := .fields #[.ref d] } } := I1.kept (t' := s1.toks) fun b ob z => Heap.get?_push_of_some _ z
  have eacc : acc'.toList = xs.map fun x => x.2.2 := by
    refine List.ext_getElem? fun i => ?_
    rw [Array.getElem?_toList]
    by_cases hi : i < es.size
    · have hv := Array.getElem?_eq_getElem (xs := acc') (i := i) (by rw [ha.1]; exact hi)
      obtain ⟨hi2, e⟩ := ha.2 i _ hv
      rw [hv, e]
      have : es.toList[i]? = some es[i] := by rw [Array.getElem?_toList]; exact Array.getElem?_eq_getElem hi
      rw [hes, List.getElem?_map] at this
      rw [List.getElem?_map]
      cases hx : xs[i]? with
      | none => rw [hx] at this; cases this
      | some x =>
        rw [hx] at this
        have := Option.some.inj this
        rw [← this]; rfl
    · rw [Array.getElem?_eq_none (by rw [ha.1]; omega), List.getElem?_eq_none (by rw [List.length_map, ← Paired.length kt, ← sz]; omega)]
  have hv := kt_vals kt
  rw [← eacc] at hv
  refine ⟨.ref _, upd H1 _ (.lst (kvs.map (·.2))), I2.laid (t' := tk) k (Nat.le_refl _) (show ObjOk X.prog X.w _ _ _ (.lst (kvs.map (·.2))) from ⟨?_, acc'.toList, c', hv, ?_⟩), rfl, q _ (I2.hok.fresh (Nat.le_refl _))⟩
  · rw [List.length_map]; exact len
  · rw [Array.toArray_toList]; exact hS
/-! ### len(set(xs)) -/
def tLenSetT (K : PySem.W.Frag) (ta : TE) : TE := fun σ H Q => ta σ H fun x H1 => ∃ (l : Addr) (ks : List (Addr × List Key)), x = V.ref l ∧ SqL K H1 l (ks.map fun p => V.ref p.1) ∧ (∀ p ∈ ks, SqT K H1 p.1 (p.2.map kV)) ∧ ks.length < 256 ∧
  ∀ L : List (List Key), L.Nodup → (∀ k, k ∈ L ↔ k ∈ ks.map (·.2)) → Q (.int L.length) H1
theorem key_rel {k : Key} {u : Value} (r : RelV (kV k) u) : keyIs k u = true := by
  cases k with
  | inl i => obtain ⟨t, rfl⟩ := r; exact keyIs_int i t
  | inr x => obtain ⟨t, rfl⟩ := r; exact keyIs_str x t
theorem items_keys {P : Program} {w : World} : ∀ {k : List Key} {us : List Value}, Vals (k.map kV) us → ItemsAre (mixKind P w) k us
  | [], _, h => by cases h; exact .nil
  | k :: ks, _, h => by
    rw [List.map_cons] at h
    cases h with
    | cons a b => exact .cons (key_rel a) (items_keys b)
theorem Inv.isKey {pins : List (Addr × Obj)} {σ : L2.St} {H : Hp} {s : Shared} {b : Addr} {k : List Key} (I : Inv X pins σ H s) (h : SqT X.K H b (k.map kV)) : IsTupleKey (mixKind X.prog X.w) s.heap k b := by
  obtain ⟨its, r, ⟨o, ho, hc, n, hd⟩, _⟩ := I.tuple h
  exact ⟨o, its.toArray, n, ho, hc, hd, by simpa using items_keys r⟩
theorem refs_val {α : Type} : ∀ {ks : List (Addr × α)} {us : List Value}, Vals (ks.map fun p => V.ref p.1) us → us = ks.map fun p => Value.ref p.1
  | [], _, h => by cases h; rfl
  | k :: ks, _, h => by
    rw [List.map_cons] at h
    cases h with
    | cons a b =>
      obtain rfl := a
      rw [refs_val b]; rfl
theorem pe_lenSetT {a : Expr} {ta : TE} {p p2 q pos : Pos} (hc : X.calm = true) (hu : X.A.units + 64 < cLine) (hg : Gl X "len") (hm : X.mg "len" = none) (hg2 : Gl X "set") (hm2 : X.mg "set" = none) (ha : PE X a ta)
    (na : starEach [a] X.env = (false, eval a X.env) :: starEach [] X.env) : PE X (.Call (.Name "len" p) [.Call (.Name "set" p2) [a] [] q] [] pos) (tLenSetT X.K ta) := by
  refine ⟨fun pins s σ H Q I h => ?_⟩
  refine Call_ (ld_blt I hg hm PySem.boot_len ?_)
  refine PyProof.Rows.callWith_builtin1 (PyProof.Rows.args_cons ?_ rfl) rfl rfl
  refine Call_ (ld_blt I hg2 hm2 PyProof.Rows.boot_set ?_)
  refine PyProof.Rows.callWith_type1 (PyProof.Rows.args_cons (thn (ha.run pins s σ H _ I h) fun v s1 ⟨x, H1, I1, r1, q1⟩ => PyProof.Rows.args_nil ?_) na) na rfl
  obtain ⟨l, ks, rfl, hl, hk, few, q1⟩ := q1
  cases r1
  obtain ⟨its, rv, pl, hz⟩ := I1.list hl
  refine MS.call_set MS.mild_mix ks (I1.ok.hd hc) pl.isList (by simpa using refs_val rv) (fun x hx => Inv.isKey I1 (hk x hx)) few (by omega) fun h' tk L es ep t R g k => ?_
  refine PyProof.Rows.args_nil ?_
  have I2 : Inv X pins σ H1 { s1 with heap := h', toks := tk } := I1.kept k
  obtain ⟨o, o1, o2, o3⟩ := R.obj
  have sz := MS.rows_size R.eq
  refine call_len_set (s := { s1 with heap := h', toks := tk }) o1 o2 o3 (MS.Held.fit (s := { s1 with heap := h', toks := tk }) R) (by rw [sz]; have := R.few; omega) ⟨.int L.length, H1, I2.tok _, ⟨_, by rw [sz]⟩, ?_⟩
  have := q1 (L.map (·.2)) R.nd (MS.came_keys g)
  rwa [List.length_map] at this
end
end MP

set_option Elab.async false
set_option linter.all false
set_option maxRecDepth 100000
set_option maxHeartbeats 4000000
/-! MP10d: len(set(a)), list(d.values()), a dict walked while it is locked. -/
namespace MP
open PySem PySem.Spec PyProof.Rows L2
/-- tuples of numbers and texts as they stand -/
theorem keys_v {K : KH} {F : Hp} : ∀ {ws : List W} {k : List Key} {vs : List V}, keysW ws = some k → RepL K F ws vs → vs = k.map kV
  | [], _, _, h, .nil => by cases h; rfl
  | w :: ws, k, _, h, .cons a b => by
    unfold keysW at h
    cases e : keysW ws with
    | none => rw [e] at h; cases hw : keyW w <;> rw [hw] at h <;> cases h
    | some ks =>
      rw [e] at h
      have r := keys_v e b
      cases w with
      | int i => cases h; cases a; rw [r]; rfl
      | str x => cases h; cases a; rw [r]; rfl
      | _ => cases h
theorem tups_v {K : KH} {S : Sto} {H : Hp} : ∀ {ws : List W} {ks : List (List Key)} {vs : List V}, tupsW ws = some ks → RepL K (fz S H) ws vs →
    ∃ ps : List (Addr × List Key), vs = ps.map (fun p => V.ref p.1) ∧ ps.map (·.2) = ks ∧ ∀ p ∈ ps, H p.1 = some (.tup (p.2.map kV))
  | [], _, _, h, .nil => by cases h; exact ⟨[], rfl, rfl, fun p hp => nomatch hp⟩
  | w :: ws, ks, _, h, .cons a b => by
    unfold tupsW at h
    split at h
    · rename_i e; cases e
    · rename_i us us' e
      cases e
      cases a with
      | tup nk ht rr =>
        cases ek : keysW us with
        | none => rw [ek] at h; cases h
        | some k =>
          rw [ek] at h
          cases er : tupsW ws with
          | none => rw [er] at h; cases h
          | some ks' =>
            rw [er] at h
            cases h
            obtain ⟨ps, e1, e2, e3⟩ := tups_v er b
            obtain ⟨hs, hH⟩ := fz_some ht
            rw [keys_v ek rr] at hH
            refine ⟨(_, k) :: ps, by rw [e1]; rfl, by rw [List.map_cons, e2], fun p hp => ?_⟩
            rcases List.mem_cons.mp hp with rfl | hp
            · exact hH
            · exact e3 p hp
    · cases h
section
variable {CX : CXT} {G : Gv} {Φ : Nat → Spec} {n : Nat}
theorem snd_lset {a : CE} (ha : Snd CX G Φ n a) : Snd CX G Φ n (.lset a) := by
  refine sndE _ (fun N k e => match e with
    | .Call (.Name x _) [.Call (.Name y _) [z] [] _] [] _ => decide (x = ("len" : Str)) && glC k.sc x && decide (y = ("set" : Str)) && glC k.sc y && notStar z && (ck G N n a).e k z
    | _ => false) rfl (fun N => rfl) (fun N k x hx => ?_) fun {N E k X x} o hN hx => ?_
  · split at hx
    · rfl
    · cases hx
  · split at hx
    · rename_i x p y p2 z p3 pos
      simp only [Bool.and_eq_true] at hx
      obtain ⟨⟨⟨⟨⟨h1, h2⟩, h3⟩, h4⟩, h5⟩, h6⟩ := hx
      obtain rfl := of_decide_eq_true h1
      obtain rfl := of_decide_eq_true h3
      have hu := units_of o.room
      refine PE.imp (pe_lenSetT o.calm (by omega) (gl_of o h2) (o.g.blt .len) (gl_of o h4) o.g.more.2.2.2.2.1 (ha.e o hN h6) (star_of h5)) fun σ H Q q => ?_
      obtain ⟨h, ρ, S, Q0, Y, s, q, kv, kx⟩ := q
      refine ⟨h, ρ, S, _, Y, s, q, fun w S1 v H1 s1 e1 r1 q1 => ?_, kx⟩
      obtain ⟨ws, ks, hw, hk, h64, q1⟩ := q1
      obtain ⟨a1, us, rfl, b1, c1⟩ := rdL_sq s1.sto r1 hw
      have hl := c1.length
      obtain ⟨ps, rfl, rfl, e3⟩ := tups_v hk c1
      rw [List.length_map] at hl
      exact ⟨a1, ps, rfl, b1.sq, fun p hp => .of (e3 p hp), by omega, fun L nd hL => kv _ _ _ _ s1 e1 (.int _) (q1 L nd hL)⟩
    · cases hx
theorem strs_rep {K : KH} {F : Hp} : ∀ {ws : List W} {xs : List Str} {vs : List V}, strsW ws = some xs → RepL K F ws vs → vs = xs.map V.str
  | [], _, _, h, .nil => by cases h; rfl
  | w :: ws, xs, _, h, .cons a b => by
    cases a with
    | str x =>
      unfold strsW at h
      cases e : strsW ws with
      | none => rw [e] at h; cases h
      | some ys => rw [e] at h; cases h; rw [strs_rep e b]; rfl
    | _ => cases h
theorem snd_lsts {a : CE} (ha : Snd CX G Φ n a) : Snd CX G Φ n (.lsts a) := by
  refine sndE _ (fun N k e => match e with
    | .Call (.Name x _) [.Call (.Name y _) [z] [] _] [] _ => decide (x = ("len" : Str)) && glC k.sc x && decide (y = ("set" : Str)) && glC k.sc y && notStar z && (ck G N n a).e k z
    | _ => false) rfl (fun N => rfl) (fun N k x hx => ?_) fun {N E k X x} o hN hx => ?_
  · split at hx
    · rfl
    · cases hx
  · split at hx
    · rename_i x p y p2 z p3 pos
      simp only [Bool.and_eq_true] at hx
      obtain ⟨⟨⟨⟨⟨h1, h2⟩, h3⟩, h4⟩, h5⟩, h6⟩ := hx
      obtain rfl := of_decide_eq_true h1
      obtain rfl := of_decide_eq_true h3
      refine PE.imp (pe_lenSetX o.calm (gl_of o h2) (o.g.blt .len) (gl_of o h4) o.g.more.2.2.2.2.1 (ha.e o hN h6) (star_of h5)) fun σ H Q q => ?_
      obtain ⟨h, ρ, S, Q0, Y, s, q, kv, kx⟩ := q
      refine ⟨h, ρ, S, _, Y, s, q, fun w S1 v H1 s1 e1 r1 q1 => ?_, kx⟩
      obtain ⟨ws, ss, hw, hs, few, q1⟩ := q1
      obtain ⟨a1, us, rfl, b1, c1⟩ := rdL_sq s1.sto r1 hw
      have hl := c1.length
      obtain rfl := strs_rep hs c1
      rw [List.length_map] at hl
      exact ⟨a1, ss, rfl, b1.sq, by omega, fun L nd hL => kv _ _ _ _ s1 e1 (.int _) (q1 L nd hL)⟩
    · cases hx
theorem kvr_vals {κ : Type} {K : KH} {F : Hp} : ∀ {kvs : List (κ × W)} {kv' : List (κ × V)}, KVR K F kvs kv' → RepL K F (kvs.map (·.2)) (kv'.map (·.2))
  | _, _, .nil => .nil
  | _, _, .cons h t => .cons h.2 (kvr_vals t)
theorem snd_lvals {live : Bool} {a : CE} (ha : Snd CX G Φ n a) : Snd CX G Φ n (.lvals live a) := by
  refine sndE _ (fun N k e => match e with
    | .Call (.Name x _) [.Call (.Attribute z y apos) [] [] cpos] [] _ => decide (x = ("list" : Str)) && glC k.sc x && decide (y = ("values" : Str)) && (apos.endLine == cpos.line) && notCall0 z && (ck G N n a).e k z
    | _ => false) rfl (fun N => rfl) (fun N k x hx => ?_) fun {N E k X x} o hN hx => ?_
  · split at hx
    · rfl
    · cases hx
  · split at hx
    · rename_i x p z y apos cpos pos
      simp only [Bool.and_eq_true] at hx
      obtain ⟨⟨⟨⟨⟨h1, h2⟩, h3⟩, h4⟩, h5⟩, h6⟩ := hx
      obtain rfl := of_decide_eq_true h1
      obtain rfl := of_decide_eq_true h3
      refine PE.imp (pe_listVals o.calm (gl_of o h2) (o.g.blt .list) (ha.e o hN h6) (base_of h5) h4) fun σ H Q q => ?_
      obtain ⟨h, ρ, S, Q0, Y, s, q, kv, kx⟩ := q
      refine ⟨h, ρ, S, _, Y, s, q, fun w S1 v H1 s1 e1 r1 q1 => ?_, kx⟩
      obtain ⟨p, kvs, rfl, hp, q1⟩ := q1
      cases r1
      obtain ⟨kv', hk1, hk2⟩ := cell_obT s1.sto hp
      exact ⟨p, kv', rfl, hk1, (kv.to e1).newLst s1 (kvr_vals hk2) q1⟩
    · cases hx
theorem rep_key {K : KH} {F : Hp} : ∀ k : Key, Rep K F (wKey k) (kV k)
  | .inl i => .int i
  | .inr x => .str x
theorem rep_keys {K : KH} {F : Hp} : ∀ ks : List Key, RepL K F (ks.map wKey) (ks.map kV)
  | [] => .nil
  | k :: ks => .cons (rep_key k) (rep_keys ks)
theorem kvr_at {κ : Type} {K : KH} {F : Hp} : ∀ {kvs : List (κ × W)} {kv' : List (κ × V)} {i : Nat} {k : κ} {v : V}, KVR K F kvs kv' → kv'[i]? = some (k, v) → ∃ w, kvs[i]? = some (k, w)
  | _, _, _, _, _, .nil, h => by simp at h
  | _, _, 0, k, v, .cons (a := a) (b := b) h t, e => by
    have e : b = (k, v) := by simpa using e
    obtain ⟨h1, _⟩ := h
    rw [e] at h1
    have h1 : a.1 = k := h1
    exact ⟨a.2, by rw [← h1]; rfl⟩
  | _, _, i + 1, k, v, .cons h t, e => by
    obtain ⟨w, hw⟩ := kvr_at (i := i) t (by simpa using e)
    exact ⟨w, by simpa using hw⟩
/-- a tuple of the layer stands frozen -/
theorem tup_fz {K : KH} {S : Sto} {H : Hp} {q : Addr} {vs : List V} (k : StoOk K S H) (h : H q = some (.tup vs)) : K.h q = false ∧ fz S H q = some (.tup vs) := by
  constructor
  · cases e : K.h q with
    | false => rfl
    | true =>
      obtain ⟨_, u, hu, hn⟩ := k.hid q e
      rw [h] at hu; cases hu
      exact hn.elim
  · rw [fz_none, h]
    cases e : S q with
    | none => rfl
    | some o =>
      obtain ⟨u, hu, r⟩ := k.at' q o e
      rw [h] at hu; cases hu
      cases o <;> obtain ⟨_, z⟩ := r <;> first | (obtain ⟨z, _⟩ := z; cases z; done) | (obtain ⟨_, z, _⟩ := z; cases z; done) | skip
      all_goals (rename_i z1; cases z1)
theorem itok_keysT {K : KH} {S0 : Sto} {H0 : Hp} {p : Addr} {od : Obj} {kvs : List (List Key × W)} {kv' : List (List Key × V)} (r : KVR K (fz S0 H0) kvs kv') :
    ItOk K S0 H0 (Itkt p od kv') (fun S => S p = some (.lk (.dt kvs) od (.dT kv'))) (kvs.map fun kv => W.tup (kv.1.map wKey)) := by
  have len := Paired.length r
  have there : ∀ S H, StoOk K S H → S p = some (.lk (.dt kvs) od (.dT kv')) → H p = some (.frz od (.dT kv')) := fun S H k h => by
    obtain ⟨u, hu, e, _⟩ := k.at' p _ h
    rw [hu, e]
  refine ⟨fun i S H k m h hi => ?_, fun i S H k m h hi => ?_, fun i S H x H' k m h hi hy => ?_⟩
  · rw [List.length_map, len] at hi
    exact ⟨there S H k h, hi⟩
  · rw [List.length_map, len] at hi
    exact ⟨there S H k h, hi⟩
  · obtain ⟨rfl, ks, v, q, h1, rfl, h2⟩ := hy
    obtain ⟨w, hw⟩ := kvr_at r h1
    obtain ⟨t1, t2⟩ := tup_fz k h2
    exact ⟨.tup (ks.map wKey), by rw [List.getElem?_map, hw]; rfl, k, Same.refl _, .tup t1 t2 (rep_keys ks)⟩
theorem itok_keysK {K : KH} {S0 : Sto} {H0 : Hp} {p : Addr} {od : Obj} {kvs : List (Key × W)} {kv' : List (Key × V)} (r : KVR K (fz S0 H0) kvs kv') :
    ItOk K S0 H0 (Itk p od kv') (fun S => S p = some (.lk (.dk kvs) od (.dK kv'))) (kvs.map fun kv => wKey kv.1) := by
  have len := Paired.length r
  have there : ∀ S H, StoOk K S H → S p = some (.lk (.dk kvs) od (.dK kv')) → H p = some (.frz od (.dK kv')) := fun S H k h => by
    obtain ⟨u, hu, e, _⟩ := k.at' p _ h
    rw [hu, e]
  refine ⟨fun i S H k m h hi => ?_, fun i S H k m h hi => ?_, fun i S H x H' k m h hi hy => ?_⟩
  · rw [List.length_map, len] at hi
    exact ⟨there S H k h, hi⟩
  · rw [List.length_map, len] at hi
    exact ⟨there S H k h, hi⟩
  · obtain ⟨rfl, ks, v, h1, rfl⟩ := hy
    obtain ⟨w, hw⟩ := kvr_at r h1
    exact ⟨wKey ks, by rw [List.getElem?_map, hw]; rfl, k, Same.refl _, rep_key ks⟩
theorem kvr_agree {κ : Type} {K : KH} {h' : Addr → Bool} {F : Hp} (h : ∀ b o, F b = some o → h' b = K.h b) {kvs : List (κ × W)} {kv' : List (κ × V)} (r : KVR K F kvs kv') : KVR ⟨K.K, h'⟩ F kvs kv' :=
  Paired.mapP r fun _ _ z => ⟨z.1, z.2.agree h⟩
theorem mut_of {K : KH} {F H : Hp} {p : Addr} {o : Ob} {ks : List W} {u : HO} (h : obKeys o = some ks) (r : ObR K F H p o u) : Mut (some u) := by
  cases o with
  | dk kvs => obtain ⟨kv', rfl, _⟩ := r; exact trivial
  | dt kvs => obtain ⟨kv', rfl, _⟩ := r; exact trivial
  | _ => cases h
theorem snd_bck {a b c : CE} (ha : Snd CX G Φ n a) (hb : Snd CX G Φ n b) (hc : Snd CX G Φ n c) : Snd CX G Φ n (.bck a b c) := by
  refine sndE _ (fun N k e => match e with | .Subscript v (.Slice (some l) none (some t) _) _ => (ck G N n a).e k v && (ck G N n b).e k l && (ck G N n c).e k t | _ => false) rfl (fun N => rfl) (fun N k x hx => ?_) fun {N E k X x} o hN hx => ?_
  · split at hx
    · rfl
    · cases hx
  · split at hx
    · simp only [Bool.and_eq_true] at hx
      refine PE.imp (pe_back (ha.e o hN hx.1.1) (hb.e o hN hx.1.2) (hc.e o hN hx.2)) fun σ H Q q => ?_
      obtain ⟨h, ρ, S, Q0, Y, s, q, kv, kx⟩ := q
      refine ⟨h, ρ, S, _, Y, s, q, fun w S1 v H1 s1 e1 r1 q1 => ⟨h, ρ, S1, _, Y, s1, q1, fun w2 S2 v2 H2 s2 e2 r2 q2 => ?_, kx.to e1⟩, kx⟩
      obtain ⟨rfl, q2⟩ := q2
      cases r2
      refine ⟨1, rfl, h, ρ, S2, _, Y, s2, q2, fun w3 S3 v3 H3 s3 e3 r3 q3 => ?_, kx.to (e1.trans e2)⟩
      obtain ⟨rfl, u, v, r, rfl, q3⟩ := q3
      cases r3
      obtain ⟨a, vs, rfl, ht, rr⟩ := tup_sq (r1.mono (e2.trans e3))
      obtain _ | ⟨ru, _ | ⟨rv, rr⟩⟩ := rr
      exact ⟨-1, rfl, rfl, rfl, a, _, _, _, rfl, .of ht, (kv.to ((e1.trans e2).trans e3)).newTup s3 (.cons rv (.cons ru .nil)) q3⟩
    · cases hx
theorem snd_lck {a : CE} (ha : Snd CX G Φ n a) : Snd CX G Φ n (.lck a) := by
  refine sndE _ (fun N k e => match e with | .ListComp .. => (ck G N n a).e k e | _ => false) rfl (fun N => rfl) (fun N k x hx => ?_) fun {N E k X x} o hN hx => ?_
  · split at hx
    · rfl
    · cases hx
  · have hx' : (ck G N n a).e k x = true := by
      split at hx
      · exact hx
      · cases hx
    refine PE.imp (pe_lock (ha.e o hN hx')) fun σ H Q q => ?_
    obtain ⟨h, ρ, S, Q0, Y, s, q, kv, kx⟩ := q
    obtain ⟨p, ob, ks, hp, hks, q⟩ := q
    obtain ⟨u, hu, ru⟩ := s.sto.at' p ob hp
    refine ⟨p, u, hu, mut_of hks ru, fun od => ?_⟩
    have e0 : Same (fz S H) (fz (sup S p (.lk ob od u)) (upd H p (.frz od u))) := by rw [fz_put hp]; exact Same.refl _
    have s0 := s.to e0 (s.sto.put hp (o := .frz od u) (ob := .lk ob od u) ⟨rfl, ru⟩)
    refine ⟨h, ρ, _, _, XN, s0, q od u, fun w S2 v H2 s2 e2 r2 q2 => ?_, XCk.no⟩
    obtain ⟨hS, q2⟩ := q2
    obtain ⟨u2, hu2, ru2, rob⟩ := s2.sto.at' p _ hS
    subst ru2
    refine ⟨hu2, ?_⟩
    have e3 : Same (fz S2 H2) (fz (sup S2 p ob) (upd H2 p u)) := by rw [fz_put hS]; exact Same.refl _
    exact kv _ _ _ _ (s2.to e3 (s2.sto.put hS rob)) ((e0.trans e2).trans e3) (r2.mono e3) q2
theorem snd_ikeys {a : CE} (ha : Snd CX G Φ n a) : Snd CX G Φ n (.ikeys a) := by
  refine sndO (fun _ _ _ => rfl) (fun _ _ _ => rfl) (fun _ _ _ => rfl) (fun _ _ _ => rfl) (fun _ _ _ => rfl) (fun {N E k X x} o hN hx => by cases hx) (fun {N E k X t x} o hN hx => ?_)
  have hx' : (notSet x && (ck G N n a).e k x) = true := hx
  simp only [Bool.and_eq_true] at hx'
  refine PI.imp (pi_keys (ha.e o hN hx'.2)) fun σ H R q => ?_
  obtain ⟨h, ρ, S, Q0, Y, s, q, kv, kx⟩ := q
  refine ⟨h, ρ, S, _, Y, s, q, fun w S1 v H1 s1 e1 r1 q1 => ?_, kx⟩
  obtain ⟨p, ob, od, u, ks, rfl, hp, hks, q1⟩ := q1
  cases r1
  obtain ⟨u', hu, rfl, rob⟩ := s1.sto.at' p _ hp
  refine ⟨p, od, rfl, ?_⟩
  cases ob with
  | dk kvs =>
    cases hks
    obtain ⟨kv', rfl, rk⟩ := rob
    exact .inl ⟨kv', hu, kv _ _ _ _ _ s1 e1 (fun h' hh => itok_keysK (kvr_agree hh rk)) q1⟩
  | dt kvs =>
    cases hks
    obtain ⟨kv', rfl, rk⟩ := rob
    exact .inr ⟨kv', hu, kv _ _ _ _ _ s1 e1 (fun h' hh => itok_keysT (kvr_agree hh rk)) q1⟩
  | _ => cases hks
end
end MP

set_option Elab.async false
set_option linter.all false
set_option maxRecDepth 100000
set_option maxHeartbeats 4000000
/-! MT: try: body / except x as n: m = n - the caught exception is held in m behind it. -/
namespace L2
open PySem PySem.Spec PyProof.Rows
/-- an exception's object that is held -/
def ExA (cls : Value) (a : Addr) : HO := .ext fun h => ∃ (oe : Obj) (vs : Array Value), h.get? a = some oe ∧ Zc cls none oe ∧ oe.data = .fields vs
theorem exA_ok {P : Program} {w : World} {H : Hp} {h : Heap} {a : Addr} {cls : Value} {oe : Obj} {vs : Array Value} (e : h.get? a = some oe) (z : Zc cls none oe) (d : oe.data = .fields vs) : ObjOk P w H h a (ExA cls a) :=
  ⟨⟨oe, vs, e, z, d⟩, ⟨oe, e⟩, fun _ _ ⟨o, v, q, r⟩ k => ⟨o, v, k o q, r⟩⟩
section
variable {X : Cx} {pins : List (Addr × Obj)} {σ : St} {H : Hp} {s : Shared}
/-- what stands there, of which nothing was told, is told of -/
theorem Inv.told {a : Addr} {o : HO} (I : Inv X pins σ H s) (n0 : X.s_0.heap.get? a = none) (hn : H a = none) (nL : a ≠ X.env.locals) (nC : ∀ x c, X.env.cells.lookup x = some c → c ≠ a) (nP : ∀ p ∈ X.pn ++ pins, p.1 ≠ a)
    (new : ObjOk X.prog X.w (upd H a o) s.heap a o) : Inv X pins σ (upd H a o) s where
  ok := I.ok
  os := I.os
  bare := I.bare
  base := ⟨fun b u q n h1 h2 => I.base.keep b u q n h1 h2, fun b u q n h1 h2 => I.base.slot b u q n h1 h2, fun b u q n hx => by rw [upd_ne (fun z => by rw [z, n0] at q; cases q)]; exact I.base.free b u q n hx, fun b u q hx => I.base.there b u q hx,
    fun b xs q => by have z := I.base.tups b xs q; rw [upd_ne (ne_of_none z hn)]; exact z, fun b u v q => by have z := I.base.frzs b u v q; rw [upd_ne (ne_of_none z hn)]; exact z, fun b ps q => by obtain ⟨m, z⟩ := I.base.tbls b ps q; exact ⟨m, by rw [upd_ne (ne_of_none z hn)]; exact z⟩⟩
  loc := I.loc
  cell := I.cell
  free := by rw [upd_ne (Ne.symm nL)]; exact I.free
  freeC := fun x c e => by rw [upd_ne (nC x c e)]; exact I.freeC x c e
  pin := fun p hp => by
    obtain ⟨h1, h2, h3⟩ := I.pin p hp
    exact ⟨h1, by rw [upd_ne (nP p hp)]; exact h2, h3⟩
  hok := fun b u e => by
    by_cases hb : b = a
    · subst hb
      rw [upd_same] at e
      cases e
      exact new
    · rw [upd_ne hb] at e
      exact (I.hok b u e).stay (fun _ _ _ q => q) (fun c q => by rw [upd_ne (ne_of_none q hn)]; exact q) fun c xs q => by rw [upd_ne (ne_of_none q hn)]; exact q
  len := I.len
end
/-- what 'except x as n: m = n' wishes of an exception of the body: it is of x's class, and m holds it behind all -/
def wKept (K : PySem.W.Frag) (c : Value) (i j : Nat) (D : Ends) : WX := fun cls d σ H =>
  d = none ∧ PySem.W.exmOne K cls c = some true ∧ ∀ a, H a = none → D.nx (((σ.set i (some (.ref a))).set j (some (.ref a))).set i none) (upd H a (ExA cls a))
section
variable {X : Cx} {x n m : Str} {c : Value} {i j : Nat} {body : List Stmt} {np p1 p2 pos pos' pos2 : Pos} {tb : WX → TS}
theorem ps_try_kept (hs : X.stack = X.env :: X.outer) (hf : X.env.frame = some X.env.locals) (hex : X.ex = []) (hN : X.N.Nodup) (hi : X.N[i]? = some n) (hln : X.env.kindOf n = some .local) (hvn : Vis X.env.scope n) (hj : X.N[j]? = some m) (hlm : X.env.kindOf m = some .local) (hfm : X.fn m = true ∨ X.env.scope.names.lookup m = some .local) (hc : Names X x c)
    (hdn : (n == ("__debug__" : Str)) = false) (hcn : (n == ("__classdict__" : Str)) = false)
    (hb : ∀ (W : WX) (pn : List (Addr × Obj)) (xe : Value → Shared → Prop), Takes (X.tr pn xe) W → PassesOwn (model X.prog X.w) X.A X.env xe → PSs (X.tr pn xe) body (tb W)) :
    PS X (.Try body [.ExceptHandler (some (.Name x np)) (some n) [.Assign [.Name m p1] (.Name n p2) pos2] pos'] [] [] pos) (fun D σ H => tb (wKept X.K c i j D) D σ H) := by
  refine ⟨fun pins s σ H D I h => ?_⟩
  have ok := I.ok
  have hfr : X.A.frames = some (X.env :: X.outer) := by rw [ok.frames, hs]
  refine wpAny_Try_except ?_
  refine wpAny_mono ((hb (wKept X.K c i j D) (X.pn ++ pins) (fun e s₁ => wpAny (model X.prog X.w) X.A (noteFrame e X.env) (fun _ s₂ => wpAny (model X.prog X.w) X.A (setFlight e none) (fun _ s₃ =>
    wpAny (model X.prog X.w) X.A (handleBy e X.env [.ExceptHandler (some (.Name x np)) (some n) [.Assign [.Name m p1] (.Name n p2) pos2] pos']) (SP X pins D) X.xe s₃) X.xe s₂) X.xe s₁) (fun u s' xx => ?_) PassesOwn.looking).run [] s σ H D (I.toTry _) h) (fun f s1 hsp => ?_) (fun e s1 he => he)
  · obtain ⟨a, B, sI, pins', σ', H', cls, d, rfl, J', nb, up, sky, na, os, ag, rfl, hb1, hyes⟩ := xx
    have J : Inv X pins σ' H' sI := J'.ofTry ok
    have sky' : Sky B (X.env :: X.outer) a (Zc cls none) X.env.locals s'.heap := by rw [← hs]; exact sky
    show wpAny (model X.prog X.w) X.A (noteFrame (.ref a) X.env) _ _ _
    refine Sky.land Zc.steady hfr hf sky' fun h3 fl3 up3 => ?_
    have J3 : Inv X pins σ' H' { s' with heap := h3 } := J.landed nb fl3.1 (up.trans up3) os ag
    obtain ⟨oe3, vs3, he3, hz3, hd3⟩ := fl3.there
    have nfr : a ∉ frs (X.env :: X.outer) := fun hm => by
      obtain ⟨_, o', e', hnf⟩ := fl3.2.2.1.mem hm
      rw [he3] at e'; cases e'
      exact hnf _ hd3
    have nL : a ≠ X.env.locals := fun z => nfr (List.mem_filterMap.mpr ⟨X.env, List.mem_cons_self, by rw [hf, z]⟩)
    have nF : a ∉ X.fs := fun hm => by
      obtain ⟨e, he, q⟩ := List.mem_filterMap.mp hm
      exact nfr (List.mem_filterMap.mpr ⟨e, List.mem_cons_of_mem _ he, q⟩)
    -- the exception is new
    have nI : sI.heap.get? a = none := by
      cases z : sI.heap.get? a with
      | none => rfl
      | some o =>
        have y := nb a o z (by rw [hs]; exact nfr)
        rw [fl3.2.1] at y; cases y
    have n0 : X.s_0.heap.get? a = none := by
      cases z : X.s_0.heap.get? a with
      | none => rfl
      | some o =>
        obtain ⟨o', y⟩ := J.base.there a o z (by rw [hex]; exact fun q => nomatch q)
        rw [nI] at y; cases y
    have nP : ∀ p ∈ X.pn ++ pins, p.1 ≠ a := fun p hp e => by
      have y := (J.pin p hp).1
      rw [e, nI] at y; cases y
    have S3 := J3.suite he3 hd3 na nL nF
    refine wpAny_handleBy_cons (codeAny_handlers_test ?_) (by intro q; cases q)
    have LT : PySem.W.Looks (model X.prog X.w) h3 (typeOf (.ref a)) cls := fun A Q E s k q => wpAny_typeOf_ref (k _ _ he3) (by rw [hz3.1]; exact q)
    have LM := PySem.W.exm_one (M := model X.prog X.w) (J3.kIn) LT hb1
    have test : ∀ {Q : Value → Shared → Prop} {E : Value → Shared → Prop}, Q c { s' with heap := h3 } → wpAny (model X.prog X.w) (X.A.mark (some (.ref a))) (eval (.Name x np) X.env) Q E { s' with heap := h3 } := fun {Q E} q => by
      obtain ⟨hg, hdbg, hm | ⟨hm, hv, hnn⟩⟩ := hc
      · exact ld_glob (X := X.suite a ((a, oe3) :: (X.pn ++ pins))) S3 hg hm q hdbg
      · exact ld_blt (X := X.suite a ((a, oe3) :: (X.pn ++ pins))) S3 hg hm hv q hnn hdbg
    refine test (LM.here ?_)
    refine codeAny_handlers_suite_as ?_
    refine HandSPX.lands_againZ fl3 fun h4 fl4 up4 => ?_
    have J4 : Inv X pins σ' H' { s' with heap := h4 } := J.landed nb fl4.1 ((up.trans up3).trans up4) os ag
    obtain ⟨oe4, vs4, he4, hz4, hd4⟩ := fl4.there
    have S4 := J4.suite he4 hd4 na nL nF
    have iσ : i < σ'.length := by rw [J4.len]; exact (List.getElem?_eq_some_iff.mp hi).1
    refine store_ok (X := X.suite a ((a, oe4) :: (X.pn ++ pins))) (v := .ref a) S4 hN hi (.inl hln) rfl (fun s5 S5 => ?_) (.inr hln)
    refine wpAny_mono ((pss_one (ps_set (X := X.suite a ((a, oe4) :: (X.pn ++ pins))) hN hj (.inl hlm) (pe_var hi hvn hdn hcn) (hf := hfm))).run [] s5 _ H' { nx := fun σ6 H6 => σ6 = (σ'.set i (some (.ref a))).set j (some (.ref a)) ∧ H6 = H', rt := fun _ _ => False } S5 ⟨.ref a, List.getElem?_set_self iσ, rfl, rfl⟩) (fun f s6 hsp => ?_) (fun _ _ z => False.elim z)
    cases f with
    | next =>
      obtain ⟨σ6, H6, S6, rfl, rfl⟩ := hsp
      have he6 : s6.heap.get? a = some oe4 := (S6.pin (a, oe4) (List.mem_append_left _ List.mem_cons_self)).1
      have J6 := S6.unsuite ok
      have nC : ∀ y c', X.env.cells.lookup y = some c' → c' ≠ a := fun y c' e z => by
        obtain ⟨v, o, ho, hcv⟩ := J6.cell y c' e
        rw [z, he6] at ho; cases ho
        rw [hd4] at hcv; cases hcv
      have J7 := J6.told n0 na nL nC nP (exA_ok he6 hz4 hd4)
      exact gone_ok J7 hN hi hln fun s7 J8 => ⟨_, _, J8, hyes a na⟩
    | brk => obtain ⟨_, _, _, z⟩ := hsp; exact z.elim
    | cont => obtain ⟨_, _, _, z⟩ := hsp; exact z.elim
    | ret u => obtain ⟨_, _, _, _, _, z⟩ := hsp; exact z.elim
  · cases f with
    | next =>
      obtain ⟨σ', H', J', q⟩ := hsp
      exact wpAny_execs_nil ⟨σ', H', J'.ofTry ok, q⟩
    | brk =>
      obtain ⟨σ', H', J', q⟩ := hsp
      exact ⟨σ', H', J'.ofTry ok, q⟩
    | cont =>
      obtain ⟨σ', H', J', q⟩ := hsp
      exact ⟨σ', H', J'.ofTry ok, q⟩
    | ret u =>
      obtain ⟨v, σ', H', J', r, q⟩ := hsp
      exact ⟨v, σ', H', J'.ofTry ok, r, q⟩
end
end L2

set_option Elab.async false
set_option linter.all false
set_option maxRecDepth 100000
set_option maxHeartbeats 4000000
/-! MT2: isinstance of a caught exception that is held. -/
namespace L2
open PySem PySem.Spec PyProof.Rows
def rIsHeld (K : PySem.W.Frag) (D : Addr) : List V → Hp → VK → Prop := fun xs H Q => ∃ (a : Addr) (c : V) (cv : Value) (b : Bool), xs = [.ref a, c] ∧ H a = some (ExA (.ref D) a) ∧ (∀ u, RelV c u → u = cv) ∧ PySem.W.kitOne K (.ref D) cv = some b ∧ Q (.bl b) H
theorem call_isHeld {X : Cx} {D : Addr} (C : ExcC X.K D) : CallR X (.builtin "isinstance") (rIsHeld X.K D) := by
  intro pins s σ H xs us Q I r h
  obtain ⟨a, c, cv, b, rfl, ha, hcv, e, q⟩ := h
  cases r with
  | cons rx rr =>
    cases rr with
    | cons rt rr =>
      cases rr
      cases rx
      have ec := hcv _ rt
      subst ec
      obtain ⟨⟨oe, vs, hget, hz, hv⟩, _, _⟩ := I.hok a _ ha
      have J : PySem.W.InstAt s.heap a oe D none := by
        obtain ⟨oc, od, oda, osl⟩ := oe
        obtain ⟨h1, h2⟩ := hz
        dsimp only at h1 h2 hv
        subst h1 h2 hv
        exact ⟨hget, rfl, rfl, trivial⟩
      exact PySem.W.kia_one (PySem.W.handS_kitx_exc C.hg C.hk C.hs C.hd C.ha C.hn C.ht C.hm) I.kIn J e (fun z => nomatch z) fun tk => ⟨.bl b, H, I.kept (t' := tk) fun _ _ z => z, rfl, q⟩
end L2

set_option Elab.async false
set_option linter.all false
set_option maxRecDepth 100000
set_option maxHeartbeats 4000000
/-! MP11: isinstance, dict displays; all expressions. -/
namespace MP
open PySem PySem.Spec PyProof.Rows L2

theorem kndTy {K : KH} {S : Sto} {H : Hp} {w : W} {v : V} {k : Knd} (s : StoOk K S H) (r : Rep K (fz S H) w v) (h : kndW S w = some k) : TyX K.K H v (.type k.nm) := by
  cases w with
  | non => cases r; cases h; exact .base .non
  | bl b => cases r; cases h; exact .base (.bl b)
  | int i => cases r; cases h; exact .base (.int i)
  | str x => cases r; cases h; exact .base (.str x)
  | tup ws =>
    cases h
    obtain ⟨a, vs, rfl, ha, ra⟩ := tup_sq r
    exact .base (.tup ha)
  | lst ws =>
    cases h
    obtain ⟨a, vs, rfl, ha, ra⟩ := rdL_sq s r rfl
    rcases ha with (ha | ⟨od, ha⟩) | ⟨its, n, h1, h2, h3⟩
    · exact .base (.lst ha)
    · exact .base (.frz ha)
    · exact .kList h1 rfl
  | ref a =>
    cases r
    cases e : S a with
    | none => simp [kndW, e] at h
    | some o =>
      simp only [kndW, e, Option.bind_some] at h
      obtain ⟨u, hu, q⟩ := s.at' a o e
      cases o with
      | lst ws => cases h; obtain ⟨vs, rfl, _⟩ := q; exact .base (.lst hu)
      | dk kvs => cases h; obtain ⟨vs, rfl, _⟩ := q; exact .base (.dK hu)
      | dt kvs => cases h; obtain ⟨vs, rfl, _⟩ := q; exact .base (.dT hu)
      | ins C fs => cases h
      | exn x => cases h
      | lk o od u' =>
        cases o with
        | lst ws => cases h; obtain ⟨rfl, vs, rfl, _⟩ := q; exact .base (.frz hu)
        | dk kvs => cases h; obtain ⟨rfl, vs, rfl, _⟩ := q; exact .fDict hu
        | _ => cases h
theorem kit_knd : ∀ k t : Knd, t ≠ .non → kitB k.nm t.nm = some (subK k t) := by
  intro k t h
  cases t <;> first | exact absurd rfl h | (cases k <;> decide +kernel)
theorem knd_boot : ∀ t : Knd, t ≠ .non → bootBuiltins (t.nm : Str) = some (.type t.nm) ∧ (t.nm : Str) ≠ "__name__" ∧ ((t.nm : Str) == ("__debug__" : Str)) = false := by
  intro t h
  cases t <;> first | exact absurd rfl h | decide +kernel
section
variable {CX : CXT} {G : Gv} {Φ : Nat → Spec} {n : Nat}
theorem snd_isi {a : CE} {t : Knd} (ha : Snd CX G Φ n a) : Snd CX G Φ n (.isi a t) := by
  refine sndE _ (fun N k e => match e with
    | .Call (.Name x _) [y, .Name z _] [] _ => decide (x = ("isinstance" : Str)) && glC k.sc x && decide (z = (t.nm : Str)) && glC k.sc z && decide (t ≠ .non) && notStar y && (ck G N n a).e k y
    | _ => false) rfl (fun N => rfl) (fun N k x hx => ?_) fun {N E k X x} o hN hx => ?_
  · split at hx
    · rfl
    · cases hx
  · split at hx
    · rename_i x p y z p2 pos
      simp only [Bool.and_eq_true] at hx
      obtain ⟨⟨⟨⟨⟨⟨h1, h2⟩, h3⟩, h4⟩, h5⟩, h6⟩, h7⟩ := hx
      obtain rfl := of_decide_eq_true h1
      obtain rfl := of_decide_eq_true h3
      have h5 := of_decide_eq_true h5
      obtain ⟨m1, m2, m3, m4, m5, m6, m7, m8, m9⟩ := o.g.more
      have hmt : X.mg (t.nm : Str) = none := by
        cases t with
        | non => exact absurd rfl h5
        | bl => exact m9
        | int => exact o.g.blt .int
        | str => exact o.g.blt .str
        | lst => exact o.g.blt .list
        | tup => exact o.g.blt .tuple
        | dct => exact m7
      obtain ⟨b1, b2, b3⟩ := knd_boot t h5
      have hT : PE X (.Name (t.nm : Str) p2) (tC (.ty t.nm)) := pe_bltn (gl_of o h4) hmt b1 rfl b2 b3
      refine PE.imp (pe_callB call_isi (gl_of o h2) m4 (by decide +kernel) (pa_cons (ha.e o hN h7) (pa_cons hT pa_nil rfl) (star_of h6)) (by decide) (by decide) (star_of h6) rfl) fun σ H Q q => ?_
      obtain ⟨hh, ρ, S, Q0, Y, s, q, kv, kx⟩ := q
      refine ⟨hh, ρ, S, _, Y, s, q, fun w S1 v H1 s1 e1 r1 q1 => ?_, kx⟩
      obtain ⟨k', hk, q1⟩ := q1
      exact ⟨v, _, _, _, _, rfl, .ty _, kndTy s1.sto r1 hk, kit_ty (kit_knd k' t h5), kv _ _ _ _ s1 e1 (.bl _) q1⟩
    · cases hx
def rIsXs (K : PySem.W.Frag) (ds : List Str) : List V → Hp → VK → Prop := fun xs H Q => ∃ d ∈ ds, rIsHeld K (clsA K d) xs H Q
theorem call_isXs {X : Cx} {ds : List Str} (h : ∀ d ∈ ds, ExcC X.K (clsA X.K d)) : CallR X (.builtin "isinstance") (rIsXs X.K ds) := fun pins s σ H xs us Q I r ⟨d, hd, z⟩ => call_isHeld (h d hd) pins s σ H xs us Q I r z
theorem snd_isc {a : CE} {x : Str} {ds xs : List Str} (ha : Snd CX G Φ n a) : Snd CX G Φ n (.isc a x ds xs) := by
  refine sndE _ (fun N k e => match e with
    | .Call (.Name y _) [z, .Name u _] [] _ => decide (y = ("isinstance" : Str)) && glC k.sc y && decide (u = x) && glC k.sc u && !(u == ("__debug__" : Str)) && notStar z && decide ((x, ds, xs) ∈ G.isx) && (ck G N n a).e k z
    | _ => false) rfl (fun N => rfl) (fun N k x hx => ?_) fun {N E k X x'} o hN hx => ?_
  · split at hx
    · rfl
    · cases hx
  · split at hx
    · rename_i y p z u p2 pos
      simp only [Bool.and_eq_true, Bool.not_eq_true'] at hx
      obtain ⟨⟨⟨⟨⟨⟨⟨h1, h2⟩, h3⟩, h4⟩, h5⟩, h6⟩, h7⟩, h8⟩ := hx
      obtain rfl := of_decide_eq_true h1
      obtain rfl := of_decide_eq_true h3
      have F := o.g.isx _ _ _ (of_decide_eq_true h7)
      obtain ⟨m1, m2, m3, m4, m5, m6, m7, m8, m9⟩ := o.g.more
      have hT : ∃ (v : V) (cv : Value), PE X (.Name u p2) (tC v) ∧ (∀ w, RelV v w → w = cv) ∧ ∀ c ∈ ds, PySem.W.kitOne X.K (.ref (clsA X.K c)) cv = some (decide (c ∈ xs)) := by
        rcases F.nm with ⟨g1, g2⟩ | ⟨g1, g2, g3⟩
        · exact ⟨.ref (clsA X.K u), .ref _, pe_glob (gl_of o h4) g1 rfl h5, fun w r => r, g2⟩
        · subst g2
          exact ⟨.ty "ValueError", .type "ValueError", pe_bltn (gl_of o h4) g1 (by decide +kernel) rfl (by decide) (by decide), fun w r => r, g3⟩
      obtain ⟨v, cv, hT, hv, hk⟩ := hT
      refine PE.imp (pe_callB (call_isXs F.ex) (gl_of o h2) m4 (by decide +kernel) (pa_cons (ha.e o hN h8) (pa_cons hT pa_nil rfl) (star_of h6)) (by decide) (by decide) (star_of h6) rfl) fun σ H Q q => ?_
      obtain ⟨hh, ρ, S, Q0, Y, s, q, kv, kx⟩ := q
      refine ⟨hh, ρ, S, _, Y, s, q, fun w S1 v1 H1 s1 e1 r1 q1 => ?_, kx⟩
      obtain ⟨p1, c, rfl, hS, hc, q1⟩ := q1
      cases r1
      obtain ⟨uo, hu, hob⟩ := s1.sto.at' p1 _ hS
      obtain rfl : uo = exH X.K c p1 := hob
      exact ⟨c, hc, p1, v, cv, _, rfl, hu, hv, hk c hc, kv _ _ _ _ s1 e1 (.bl _) q1⟩
    · cases hx
end
/-! ### dict displays -/
section
variable {K : KH} {D : Addr}
/-- a hidden thing becomes a cell -/
theorem Sim.cellO {ρ : Env} {σ : L2.St} {S : Sto} {H : Hp} {ob : Ob} {u : HO} (s : Sim (K.more D) ρ σ S H) (nD : K.h D = false) (h : H D = some u) (r : ObR (K.more D) (fz S H) H D ob u) : Sim K ρ σ (sup S D ob) H := by
  have hS := (s.sto.hid D KH.more_at).1
  have e : ∀ b, b ≠ D → fz (sup S D ob) H b = fz S H b := fun b hb => by
    unfold fz
    rw [sup_ne hb]
  refine ⟨fun i w q => ?_, s.len, ⟨fun b u q => ?_, fun a q => ?_⟩⟩
  · obtain ⟨v, h1, h2⟩ := s.var i w q
    exact ⟨v, h1, (h2.hidden KH.more_at e).unhide⟩
  · by_cases hb : b = D
    · subst hb
      rw [sup_same] at q; cases q
      exact ⟨_, h, (r.hidden KH.more_at e).unhide⟩
    · rw [sup_ne hb] at q
      obtain ⟨v, hv, z⟩ := s.sto.at' b u q
      exact ⟨v, hv, (z.hidden KH.more_at e).unhide⟩
  · obtain ⟨h1, u, h2⟩ := s.sto.hid a (by unfold KH.more; simp [q])
    by_cases z : a = D
    · subst z
      rw [nD] at q; cases q
    · exact ⟨by rw [sup_ne z]; exact h1, u, h2⟩
end
def trsOf (c : Ct0) (Φ : Nat → Spec) : CE → List (TE × TE)
  | .cons a (.cons b r) => (tOf c (wp Φ a).e, tOf c (wp Φ b).e) :: trsOf c Φ r
  | _ => []
def itm : CE → List CE
  | .cons a as => a :: itm as
  | _ => []
def evn : CE → Bool
  | .nil => true
  | .cons _ (.cons _ r) => evn r
  | _ => false
def prs : List V → List (V × V)
  | a :: b :: r => (a, b) :: prs r
  | _ => []
theorem imp_pairs {c : Ct0} {Φ : Nat → Spec} : ∀ (as : CE), evn as = true → ∀ {h : Addr → Bool} {ρ : Env} {σ : L2.St} {S : Sto} {H : Hp} {Q : List W → Sto → Prop} {X : XC} {Q' : List (V × V) → Hp → Prop}, Sim (c.at h).K ρ σ S H → (wp Φ as).es ρ S Q X →
    (∀ ws S' vs H', Sim (c.at h).K ρ σ S' H' → Same (fz S H) (fz S' H') → RepL (c.at h).K (fz S' H') ws vs → Q ws S' → Q' (prs vs) H') → XCk (c.at h).K (c.E σ) S H X → tPairs (trsOf c Φ as) σ H Q'
  | .nil, _, h, ρ, σ, S, H, Q, X, Q', s, q, k, kx => k [] S [] H s (Same.refl _) .nil q
  | .cons a (.cons b r), he, h, ρ, σ, S, H, Q, X, Q', s, q, k, kx => by
    refine ⟨h, ρ, S, _, X, s, q, fun w S1 v H1 s1 e1 r1 q1 => ⟨h, ρ, S1, _, X, s1, q1, fun w2 S2 v2 H2 s2 e2 r2 q2 => ?_, kx.to e1⟩, kx⟩
    refine imp_pairs r he s2 q2 (fun ws S3 vs H3 s3 e3 r3 q3 => ?_) (kx.to (e1.trans e2))
    exact k (w :: w2 :: ws) S3 (v :: v2 :: vs) H3 s3 ((e1.trans e2).trans e3) (.cons (r1.mono (e2.trans e3)) (.cons (r2.mono e3) r3)) q3
theorem keyKey {K : KH} {F : Hp} {w : W} {v : V} {k : Key} (h : keyW w = some k) (r : Rep K F w v) : v = kV k := by
  cases w with
  | int i => cases h; cases r; rfl
  | str x => cases h; cases r; rfl
  | _ => cases h
theorem puts_v {K : KH} {F : Hp} : ∀ {ws : List W} {vs : List V} {acc kvs : List (Key × W)} {acc' : List (Key × V)}, RepL K F ws vs → KVR K F acc acc' → putsK acc ws = some kvs →
    ∃ ps : List (Key × V), prs vs = ps.map (fun kv => (kV kv.1, kv.2)) ∧ 2 * ps.length = ws.length ∧ KVR K F kvs (mergeK acc' ps)
  | [], _, acc, kvs, acc', .nil, r, h => by
    cases h
    exact ⟨[], rfl, rfl, r⟩
  | [w], _, _, _, _, .cons _ .nil, _, h => by cases h
  | w :: w2 :: ws, _, acc, kvs, acc', .cons r1 (.cons r2 rs), r, h => by
    unfold putsK at h
    cases e : keyW w with
    | none => rw [e] at h; cases h
    | some k =>
      rw [e] at h
      obtain ⟨ps, h1, h2, h3⟩ := puts_v (acc' := putK acc' k _) rs (kvr_put r r2) h
      refine ⟨(k, _) :: ps, ?_, ?_, h3⟩
      · show (_, _) :: prs _ = _
        rw [h1, keyKey e r1]
        rfl
      · rw [List.length_cons, List.length_cons, List.length_cons]; omega
section
variable {CX : CXT} {G : Gv} {Φ : Nat → Spec} {n : Nat}
theorem altE_ks {ks : List (Option Expr)} {vs es : List Expr} (h : altE ks vs = some es) : (ks = [] ∧ vs = [] ∧ es = []) ∨ ∃ k ks' v vs' es', ks = some k :: ks' ∧ vs = v :: vs' ∧ es = k :: v :: es' ∧ altE ks' vs' = some es' := by
  cases ks with
  | nil => cases vs <;> cases h; exact .inl ⟨rfl, rfl, rfl⟩
  | cons q ks =>
    cases q with
    | none => cases vs <;> cases h
    | some q =>
      cases vs with
      | nil => cases h
      | cons v vs =>
        have h' : (altE ks vs).map (fun r => q :: v :: r) = some es := h
        cases e : altE ks vs with
        | none => rw [e] at h'; cases h'
        | some es' =>
          rw [e] at h'; cases h'
          exact .inr ⟨_, _, _, _, _, rfl, rfl, rfl, e⟩
theorem es_cons {N : List Str} {k : Sk} {as : CE} {x : Expr} {es : List Expr} (h : (ck G N n as).es k (x :: es) = true) : ∃ a r, as = .cons a r ∧ (ck G N n a).e k x = true ∧ (ck G N n r).es k es = true := by
  cases as with
  | cons a r =>
    have h' : (notStar x && (ck G N n a).e k x && (ck G N n r).es k es) = true := h
    simp only [Bool.and_eq_true] at h'
    exact ⟨a, r, rfl, h'.1.2, h'.2⟩
  | _ => cases h
theorem es_nil0 {N : List Str} {k : Sk} {as : CE} (h : (ck G N n as).es k [] = true) : as = .nil := by
  cases as <;> first | rfl | cases h
theorem pps_of {E : L2.St → XK} {k : Sk} {X : Cx} {N : List Str} {pos : Pos} (o : XOk CX G Φ n E k X) (hN : X.N = N) : ∀ (m : Nat) {as : CE} {ks : List (Option Expr)} {vs es : List Expr}, ks.length = m → (∀ a ∈ itm as, Snd CX G Φ n a) → altE ks vs = some es →
    (ck G N n as).es k es = true → PPs X pos ks vs (trsOf ⟨X.K, E⟩ Φ as) ∧ evn as = true ∧ ks.all (·.isSome) = true ∧ ks.length = vs.length
  | 0, as, ks, vs, es, hm, hs, ha, hc => by
    rcases altE_ks ha with ⟨rfl, rfl, rfl⟩ | ⟨q, ks', v, vs', es', rfl, rfl, rfl, ha⟩
    · obtain rfl := es_nil0 hc
      exact ⟨pps_nil, rfl, rfl, rfl⟩
    · cases hm
  | m + 1, as, ks, vs, es, hm, hs, ha, hc => by
    rcases altE_ks ha with ⟨rfl, rfl, rfl⟩ | ⟨q, ks', v, vs', es', rfl, rfl, rfl, ha2⟩
    · cases hm
    · obtain ⟨a, r, rfl, c1, hc2⟩ := es_cons hc
      obtain ⟨b, r, rfl, c2, hc3⟩ := es_cons hc2
      obtain ⟨p1, p2, p3, p4⟩ := pps_of (as := r) o hN m (by simpa using hm) (fun z hz => hs z (by simp [itm, hz])) ha2 hc3
      exact ⟨pps_cons ((hs a (by simp [itm])).e o hN c1) ((hs b (by simp [itm])).e o hN c2) p1, p2, by rw [List.all_cons, p3]; rfl, by rw [List.length_cons, List.length_cons, p4]⟩
theorem rep_rg {K : KH} {F : Hp} {j : Int} : RepL K F (rngW 0 j.toNat) (rgV 0 j) := by
  unfold rngW rgV
  rw [Int.sub_zero]
  generalize List.range j.toNat = l
  induction l with
  | nil => exact .nil
  | cons i l ih => exact .cons (.int _) ih
theorem snd_lrg {live : Bool} {a : CE} (ha : Snd CX G Φ n a) : Snd CX G Φ n (.lrg live a) := by
  refine sndE _ (fun N k e => match e with
    | .Call (.Name x _) [.Call (.Name y _) [z] [] _] [] _ => decide (x = ("list" : Str)) && glC k.sc x && decide (y = ("range" : Str)) && glC k.sc y && notStar z && (ck G N n a).e k z
    | _ => false) rfl (fun N => rfl) (fun N k x hx => ?_) fun {N E k X x} o hN hx => ?_
  · split at hx
    · rfl
    · cases hx
  · split at hx
    · rename_i x p y p2 z p3 pos
      simp only [Bool.and_eq_true] at hx
      obtain ⟨⟨⟨⟨⟨h1, h2⟩, h3⟩, h4⟩, h5⟩, h6⟩ := hx
      obtain rfl := of_decide_eq_true h1
      obtain rfl := of_decide_eq_true h3
      refine PE.imp (pe_listRg o.calm (gl_of o h2) (o.g.blt .list) (prg_1 (gl_of o h4) o.g.more.1 (ha.e o hN h6) (star_of h5)) rfl) fun σ H Q q => ?_
      obtain ⟨hh, ρ, S, Q0, Y, s, q, kv, kx⟩ := q
      refine ⟨hh, ρ, S, _, Y, s, q, fun w S1 v H1 s1 e1 r1 q1 => ?_, kx⟩
      obtain ⟨j, rfl, j0, j1, q1⟩ := q1
      cases r1
      exact ⟨j, rfl, RgOk.of_le (by omega) j1 (by omega) j0, (kv.to e1).newLst s1 rep_rg q1⟩
    · cases hx
theorem snd_dnew {tk : Bool} : Snd CX G Φ n (.dnew tk) := by
  refine sndE _ (fun N k e => match e with | .Dict [] [] _ => true | _ => false) rfl (fun N => rfl) (fun N k x hx => by split at hx <;> first | rfl | cases hx) fun {N E k X x} o hN hx => ?_
  split at hx
  · cases tk with
    | true =>
      refine PE.imp pe_dnewT fun σ H Q q => ?_
      obtain ⟨h, ρ, S, Q0, Y, s, q, kv, kx⟩ := q
      intro p hp
      exact kv _ _ _ _ ⟨fun i w e => let ⟨v, e1, e2⟩ := s.var i w e; ⟨v, e1, e2.mono (same_newc s.sto hp)⟩, s.len, s.sto.newc hp (show ObR _ _ _ _ (.dt []) _ from ⟨_, rfl, .nil⟩)⟩ (same_newc s.sto hp) (.ref p) (q p (s.sto.free hp))
    | false =>
      refine PE.imp pe_dnewK fun σ H Q q => ?_
      obtain ⟨h, ρ, S, Q0, Y, s, q, kv, kx⟩ := q
      intro p hp
      exact kv _ _ _ _ ⟨fun i w e => let ⟨v, e1, e2⟩ := s.var i w e; ⟨v, e1, e2.mono (same_newc s.sto hp)⟩, s.len, s.sto.newc hp (show ObR _ _ _ _ (.dk []) _ from ⟨_, rfl, .nil⟩)⟩ (same_newc s.sto hp) (.ref p) (q p (s.sto.free hp))
  · cases hx
theorem XCk.more {K : KH} {E : XK} {S : Sto} {H : Hp} {Y : XC} {p : Addr} {o : HO} (k : StoOk K S H) (hp : H p = none) (kx : XCk K E S H Y) : XCk (K.more p) E S (upd H p o) Y := fun x S' H' d k' e r h => by
  refine kx x S' H' d k'.unhide ((same_new k hp).trans e) ?_ h
  unfold XRep at r ⊢
  split at r
  · exact r
  · obtain ⟨dd, v, a, b, c⟩ := r
    exact ⟨dd, v, a, b, c.unhide⟩
theorem snd_dct {as : CE} (hs : ∀ a ∈ itm as, Snd CX G Φ n a) : Snd CX G Φ n (.dct as) := by
  refine sndE _ (fun N k e => match e with
    | .Dict ks vs _ => (match altE ks vs with | some es => (ck G N n as).es k es && decide (ks.length ≤ 15) && !ks.isEmpty | none => false)
    | _ => false) rfl (fun N => rfl) (fun N k x hx => by cases x <;> first | rfl | cases hx) fun {N E k X x} o hN hx => ?_
  cases x with
  | Dict ks vs pos =>
    simp only at hx
    split at hx
    · rename_i es he
      simp only [Bool.and_eq_true, decide_eq_true_eq] at hx
      obtain ⟨⟨h1, h2⟩, h3⟩ := hx
      obtain ⟨p1, p2, p3, p4⟩ := pps_of (pos := pos) o hN _ rfl hs he h1
      refine PE.imp (pe_disp p1 p3 p4 (fun z => by rw [z] at h3; cases h3) h2) fun σ H Q q => ?_
      obtain ⟨h, ρ, S, Q0, Y, s, q, kv, kx⟩ := q
      intro p hp
      have hF : fz S H p = none := by
        unfold fz
        split <;> first | rfl | exact hp
      have nD := s.sto.nohid hp
      refine imp_pairs (h := (((⟨X.K, E⟩ : Ct0).at h).K.more p).h) as p2 (s.hide hp) q (fun ws S1 vs1 H1 s1 e1 r1 q1 => ?_) (kx.more s.sto hp)
      have hS : S p = none := s.sto.free hp
      have dAt : H1 p = some (.dK []) := (fz_some (e1 p _ (by rw [fz_none hS]; exact upd_same))).2
      refine ⟨dAt, ?_⟩
      obtain ⟨kvs, hk, hl, q1⟩ := q1
      obtain ⟨ps, b1, b2, b3⟩ := puts_v r1 .nil hk
      refine ⟨ps, b1, by omega, ?_⟩
      have e01 : Same (fz S H) (fz S1 H1) := (same_new s.sto hp).trans e1
      have s1' : Sim (((⟨X.K, E⟩ : Ct0).at h).K.more p) ρ σ S1 (upd H1 p (.dK (mergeK [] ps))) := s1.hidden KH.more_at
      refine kv _ _ _ _ (s1'.cellO nD upd_same (show ObR _ _ _ _ (.dk kvs) _ from ⟨_, rfl, b3.hidden KH.more_at fz_hid⟩)) (fun b u z => ?_) (.ref p) (q1 p (s1.sto.hid p KH.more_at).1)
      have hb := ne_of_none z hF
      have := e01 b u z
      unfold fz at this ⊢
      rw [sup_ne hb, upd_ne hb]
      exact this
    · cases hx
  | _ => cases hx
theorem snd_all2 : ∀ c : CE, Snd CX G Φ n c ∧ ∀ a ∈ itm c, Snd CX G Φ n a := by
  intro c
  induction c with
  | cons a as h1 h2 => exact ⟨snd_cons h1.1 h2.1, fun z hz => by
      rcases List.mem_cons.mp hz with rfl | hz
      · exact h1.1
      · exact h2.2 z hz⟩
  | nil => exact ⟨snd_nil, fun z hz => nomatch hz⟩
  | var i => exact ⟨snd_var i, fun z hz => nomatch hz⟩
  | cst c => exact ⟨snd_cst c, fun z hz => nomatch hz⟩
  | glb x c => exact ⟨snd_glb x c, fun z hz => nomatch hz⟩
  | bin live op a b h1 h2 => exact ⟨snd_bin h1.1 h2.1, fun z hz => nomatch hz⟩
  | neg a h1 => exact ⟨snd_neg h1.1, fun z hz => nomatch hz⟩
  | nt a h1 => exact ⟨snd_nt h1.1, fun z hz => nomatch hz⟩
  | cmp op a b h1 h2 => exact ⟨snd_cmp h1.1 h2.1, fun z hz => nomatch hz⟩
  | chain o1 o2 a b c h1 h2 h3 => exact ⟨snd_chain h1.1 h2.1 h3.1, fun z hz => nomatch hz⟩
  | an as h1 => exact ⟨snd_an h1.1, fun z hz => nomatch hz⟩
  | or as h1 => exact ⟨snd_or h1.1, fun z hz => nomatch hz⟩
  | ife t a b h1 h2 h3 => exact ⟨snd_ife h1.1 h2.1 h3.1, fun z hz => nomatch hz⟩
  | call f as h1 => exact ⟨snd_call h1.1, fun z hz => nomatch hz⟩
  | blt b live as h1 => exact ⟨snd_blt h1.1, fun z hz => nomatch hz⟩
  | mth m o as h1 h2 => exact ⟨snd_mth h1.1 h2.1, fun z hz => nomatch hz⟩
  | idx a b h1 h2 => exact ⟨snd_idx h1.1 h2.1, fun z hz => nomatch hz⟩
  | slc live a lo hi h1 h2 h3 => exact ⟨snd_slc h1.1 h2.1 h3.1, fun z hz => nomatch hz⟩
  | rev live a h1 => exact ⟨snd_rev h1.1, fun z hz => nomatch hz⟩
  | tup as h1 => exact ⟨snd_tup h1.1, fun z hz => nomatch hz⟩
  | lst live as h1 => exact ⟨snd_lst h1.1, fun z hz => nomatch hz⟩
  | dnew tk => exact ⟨snd_dnew, fun z hz => nomatch hz⟩
  | dct as h1 => exact ⟨snd_dct h1.2, fun z hz => nomatch hz⟩
  | lc live own tg it cond elt h1 h2 h3 h4 => exact ⟨snd_lc h1.1 h2.1 h3.1 h4.1, fun z hz => nomatch hz⟩
  | frz a h1 => exact ⟨snd_frz h1.1, fun z hz => nomatch hz⟩
  | lrg live a h1 => exact ⟨snd_lrg h1.1, fun z hz => nomatch hz⟩
  | lzip live a b h1 h2 => exact ⟨snd_lzip h1.1 h2.1, fun z hz => nomatch hz⟩
  | stp live a s h1 h2 => exact ⟨snd_stp h1.1 h2.1, fun z hz => nomatch hz⟩
  | sset live a h1 => exact ⟨snd_sset h1.1, fun z hz => nomatch hz⟩
  | rpr a h1 => exact ⟨snd_rpr h1.1, fun z hz => nomatch hz⟩
  | isi a t h1 => exact ⟨snd_isi h1.1, fun z hz => nomatch hz⟩
  | lset a h1 => exact ⟨snd_lset h1.1, fun z hz => nomatch hz⟩
  | lsts a h1 => exact ⟨snd_lsts h1.1, fun z hz => nomatch hz⟩
  | lvals live a h1 => exact ⟨snd_lvals h1.1, fun z hz => nomatch hz⟩
  | bck a b c h1 h2 h3 => exact ⟨snd_bck h1.1 h2.1 h3.1, fun z hz => nomatch hz⟩
  | lck a h1 => exact ⟨snd_lck h1.1, fun z hz => nomatch hz⟩
  | isc a x ds xs h1 => exact ⟨snd_isc h1.1, fun z hz => nomatch hz⟩
  | ikeys a h1 => exact ⟨snd_ikeys h1.1, fun z hz => nomatch hz⟩
  | tnm i => exact ⟨snd_tnm i, fun z hz => nomatch hz⟩
  | ttup ts h1 => exact ⟨snd_ttup h1.1, fun z hz => nomatch hz⟩
  | tsub o i h1 h2 => exact ⟨snd_tsub h1.1 h2.1, fun z hz => nomatch hz⟩
  | iseq a h1 => exact ⟨snd_iseq h1.1, fun z hz => nomatch hz⟩
  | irng1 a h1 => exact ⟨snd_irng1 h1.1, fun z hz => nomatch hz⟩
  | irng2 a b h1 h2 => exact ⟨snd_irng2 h1.1 h2.1, fun z hz => nomatch hz⟩
  | irng3 a b c h1 h2 h3 => exact ⟨snd_irng3 h1.1 h2.1 h3.1, fun z hz => nomatch hz⟩
  | izip a b h1 h2 => exact ⟨snd_izip h1.1 h2.1, fun z hz => nomatch hz⟩
  | ienm a h1 => exact ⟨snd_ienm h1.1, fun z hz => nomatch hz⟩
theorem snd_all (c : CE) : Snd CX G Φ n c := (snd_all2 c).1
end
end MP

set_option Elab.async false
set_option linter.all false
set_option maxRecDepth 100000
set_option maxHeartbeats 4000000
/-! MP12: statements: the check, and what it is worth. -/
namespace MP
open PySem PySem.Spec PyProof.Rows L2

/-! ### what an assignment's form means -/
def kFn (sc : Scope) : Bool := match sc.kind with | .function => true | _ => false
theorem kFn_of {sc : Scope} (h : kFn sc = true) : sc.kind = .function := by
  unfold kFn at h
  split at h
  · assumption
  · cases h
def swB (sc : Scope) (value tg : Expr) : Bool :=
  match value, tg with
  | .ListComp _ _ s p, .Name t q => (sc.names.lookup t == some .local && q.line == p.line && !(s.names.any fun (n, k) => n == t && (k == .local || k == .cell)))
  | _, _ => false
def notSD : Expr → Bool | .SetComp .. => false | .DictComp .. => false | _ => true
theorem sw_eq {sc : Scope} {env : PySem.Env} {value tg : Expr} {l : Nat} (hs : env.scope = sc) (hk : kFn sc = true) (h : notSD value = true) : swapsWith value (some tg) l env = pure (swB sc value tg) := by
  have hb : env.blockKind = .function := by
    unfold Env.blockKind
    rw [hs, kFn_of hk]
    rfl
  cases value with
  | ListComp elt gs s p =>
    cases tg with
    | Name t q =>
      unfold swapsWith swB
      simp only [hb]
      subst hs
      rfl
    | _ => rfl
  | SetComp => cases h
  | DictComp => cases h
  | _ => rfl
def notTupE : Expr → Bool | .Tuple .. => false | _ => true
def notTL : Expr → Bool | .Tuple .. => false | .List .. => false | _ => true
theorem sws_none {tg e : Expr} {env : PySem.Env} (h : (notTupE e || notTL tg) = true) : swappedStores [tg] e env = pure none := by
  cases e <;> first | (cases tg <;> first | rfl | cases h) | (cases tg <;> rfl)
def swsN (sc : Scope) (ts : List Expr) : List Str := ts.filterMap fun
  | .Name id pos => if (sc.names.lookup id == some .local && pos.line == (ts.head?.map (·.pos.line)).getD 0) = true then some id else none
  | _ => none
def swsB (sc : Scope) (ts vs : List Expr) : Bool :=
  (ts.length == 2 || ts.length == 3) && (vs.length == ts.length) && vs.all notStar && ((swsN sc ts).length == ts.length) && ((swsN sc ts).eraseDups.length == (swsN sc ts).length) && !vs.all (foldedForSure 8) && !vs.all (constantsAlone 8)
theorem star_any : ∀ {vs : List Expr}, vs.all notStar = true → (vs.any fun | .Starred .. => true | _ => false) = false
  | [], _ => rfl
  | x :: xs, h => by
    rw [List.all_cons, Bool.and_eq_true] at h
    rw [List.any_cons, star_any h.2]
    cases x <;> first | rfl | cases h.1
def swsF (c1 star : Bool) (names : List Str) (ts vs : List Expr) : Sem (Option (List Str)) := do
  if c1 then return none
  if star then return none
  if names.length != ts.length || names.eraseDups.length != names.length then return none
  if vs.all (foldedForSure 8) then return none
  if vs.all (constantsAlone 8) then unsupported "assign.tuple-of-constant-expressions:order-of-the-stores"
  return some names
theorem sws_eq {sc : Scope} {env : PySem.Env} {ts vs : List Expr} {k k2 : Nat} {p p2 : Pos} (hs : env.scope = sc) (hk : kFn sc = true) (h : swsB sc ts vs = true) : swappedStores [.Tuple ts k p] (.Tuple vs k2 p2) env = pure (some (swsN sc ts)) := by
  have hb : (env.blockKind != .function) = false := by
    unfold Env.blockKind
    rw [hs, kFn_of hk]
    rfl
  subst hs
  unfold swsB at h
  simp only [Bool.and_eq_true, Bool.not_eq_true'] at h
  obtain ⟨⟨⟨⟨⟨⟨h1, h2⟩, h3⟩, h4⟩, h5⟩, h6⟩, h7⟩ := h
  have e : swappedStores [.Tuple ts k p] (.Tuple vs k2 p2) env = swsF (!(ts.length == 2 || ts.length == 3) || vs.length != ts.length || env.blockKind != .function) (vs.any fun | .Starred .. => true | _ => false) (swsN env.scope ts) ts vs := rfl
  have e2 : (vs.length != ts.length) = false := by simpa using h2
  have e4 : ((swsN env.scope ts).length != ts.length) = false := by simpa using h4
  have e5 : ((swsN env.scope ts).eraseDups.length != (swsN env.scope ts).length) = false := by simpa using h5
  rw [e, hb, h1, e2, star_any h3]
  unfold swsF
  simp only [e4, e5, h6, h7]
  rfl
/-- names that aren't all plain local: no stores are swapped -/
def swsZ (sc : Scope) (tg e : Expr) : Bool := match tg, e with
  | .Tuple ts _ _, .Tuple vs _ _ => vs.all notStar && ((swsN sc ts).length != ts.length)
  | _, _ => false
theorem sws_zero {sc : Scope} {tg e : Expr} {env : PySem.Env} (hs : env.scope = sc) (h : swsZ sc tg e = true) : swappedStores [tg] e env = pure none := by
  subst hs
  unfold swsZ at h
  split at h
  · rename_i ts k p vs k2 p2
    simp only [Bool.and_eq_true] at h
    have e : swappedStores [.Tuple ts k p] (.Tuple vs k2 p2) env = swsF (!(ts.length == 2 || ts.length == 3) || vs.length != ts.length || env.blockKind != .function) (vs.any fun | .Starred .. => true | _ => false) (swsN env.scope ts) ts vs := rfl
    rw [e, star_any h.1]
    generalize (!(ts.length == 2 || ts.length == 3) || vs.length != ts.length || env.blockKind != .function) = c1
    unfold swsF
    simp only [h.2, Bool.true_or]
    cases c1 <;> rfl
  · cases h
structure CKS where
  s : Sk → Stmt → Bool
  b : Sk → List Stmt → Bool
def ck1 (f : Sk → Stmt → Bool) : CKS := { s := f, b := fun k sts => match sts with | [st] => f k st | _ => false }
/-- a list comprehension put under a name -/
def ckL (G : Gv) (N : List Str) (n : Nat) (t e : CE) (k : Sk) (tg v : Expr) : Bool :=
  match t, e, tg, v with
  | .tnm i, .lc _ own tg' it cond elt, .Name y _, .ListComp x [⟨t', i', ifs, 0⟩] scope _ =>
    decide (N[i]? = some y) && decide (k.sc.names.lookup y = some .local) && blkC N k.sc scope own && notSet i' && (als tg').all (fun j => (own.map (·.2)).contains j) && (ck G N n it).i k t' i' &&
        (ck G N n tg').g ⟨relS scope k.sc, some scope⟩ t' && (ck G N n cond).c ⟨relS scope k.sc, some scope⟩ ifs && (ck G N n elt).e ⟨relS scope k.sc, some scope⟩ x
  | _, _, _, _ => false
def isGh : CS → Bool
  | .gfrz _ => true
  | .gdrop => true
  | .gfr2 _ => true
  | _ => false
def nmE : Expr → Option Str
  | .Name x _ => some x
  | _ => none
def cks (G : Gv) (N : List Str) (n : Nat) : CS → CKS
  | .nil => { s := fun _ _ => false, b := fun _ sts => sts.isEmpty }
  | .seq s r => { s := fun _ _ => false, b := fun k sts => if isGh s = true then (cks G N n r).b k sts else match sts with | st :: rest => (cks G N n s).s k st && (cks G N n r).b k rest | [] => false }
  | .asg t e => ck1 fun k st => match st with
    | .Assign [tg] v _ => kFn k.sc && notStar tg && notSD v && (notTupE v || notTL tg || swsZ k.sc tg v) && (if swB k.sc v tg = true then ckL G N n t e k tg v else (ck G N n e).e k v && (ck G N n t).g k tg)
    | _ => false
  | .par is es => ck1 fun k st => match st, is with
    | .Assign [.Tuple [.Name x px, .Name y py] _ _] (.Tuple [a, b] _ _) _, [i, j] => kFn k.sc && swsB k.sc [.Name x px, .Name y py] [a, b] && decide (swsN k.sc [.Name x px, .Name y py] = [x, y]) && decide (N[i]? = some x) && decide (N[j]? = some y) && decide (i ≠ j) &&
        decide (k.sc.names.lookup x = some .local) && decide (k.sc.names.lookup y = some .local) && (ck G N n es).es k [a, b]
    | .Assign [.Tuple [.Name x px, .Name y py, .Name z pz] _ _] (.Tuple [a, b, c] _ _) _, [i, j, l] => kFn k.sc && swsB k.sc [.Name x px, .Name y py, .Name z pz] [a, b, c] && decide (swsN k.sc [.Name x px, .Name y py, .Name z pz] = [x, y, z]) &&
        decide (N[i]? = some x) && decide (N[j]? = some y) && decide (N[l]? = some z) && decide (i ≠ j) && decide (i ≠ l) && decide (j ≠ l) &&
        decide (k.sc.names.lookup x = some .local) && decide (k.sc.names.lookup y = some .local) && decide (k.sc.names.lookup z = some .local) && (ck G N n es).es k [a, b, c]
    | _, _ => false
  | .aug i sb e => ck1 fun k st => match st with
    | .AugAssign (.Name x _) op v _ => decide (op = if sb = true then Operator.Sub else Operator.Add) && decide (N[i]? = some x) && stoC k x && (ck G N n e).e k v
    | _ => false
  | .augS o i sb e => ck1 fun k st => match st with
    | .AugAssign (.Subscript x y _) op v _ => decide (op = if sb = true then Operator.Sub else Operator.Add) && notSlice y && (ck G N n o).e k x && (ck G N n i).e k y && (ck G N n e).e k v
    | _ => false
  | .expr e => ck1 fun k st => match st with | .Expr v _ => notSD v && (match v with | .ListComp .. => false | _ => true) && (ck G N n e).e k v | _ => false
  | .ret e => ck1 fun k st => match st with | .Return (some v) _ => (ck G N n e).e k v | _ => false
  | .retN => ck1 fun _ st => match st with | .Return none _ => true | _ => false
  | .iff t a b => ck1 fun k st => match st with | .If c x y _ => (ck G N n t).e k c && (cks G N n a).b k x && (cks G N n b).b k y | _ => false
  | .fr t it b => ck1 fun k st => match st with | .For tg v body [] _ => notSet v && (ck G N n it).i k tg v && (ck G N n t).g k tg && (cks G N n b).b k body | _ => false
  | .whl t b => ck1 fun k st => match st with | .While c body [] _ => (ck G N n t).e k c && (cks G N n b).b k body | _ => false
  | .cont => ck1 fun _ st => match st with | .Continue _ => true | _ => false
  | .brk => ck1 fun _ st => match st with | .Break _ => true | _ => false
  | .pass => ck1 fun _ st => match st with | .Pass _ => true | _ => false
  | .gfrz _ => { s := fun _ _ => false, b := fun _ sts => sts.isEmpty }
  | .gfr2 _ => { s := fun _ _ => false, b := fun _ sts => sts.isEmpty }
  | .gdrop => { s := fun _ _ => false, b := fun _ sts => sts.isEmpty }
  | .never => { s := fun _ _ => true, b := fun _ _ => true }
  | .tca i j x xs t e => ck1 fun k st => match st with
    | .Try [.Assign [tg] v _] [.ExceptHandler (some (.Name y _)) (some nn) [.Assign [.Name mm _] (.Name n2 _) _] _] [] [] _ =>
      (G.tr && k.raw.isNone && decide (y = x) && glC k.sc y && !(y == ("__debug__" : Str)) && decide (n2 = nn)) && (decide (N[i]? = some nn) && decide (N[j]? = some mm) && decide (k.sc.names.lookup nn = some .local) && decide (k.sc.names.lookup mm = some .local) &&
      !(nn == ("__debug__" : Str)) && !(nn == ("__classdict__" : Str))) && (decide ((x, xs) ∈ G.tcs) && kFn k.sc && notStar tg && notSD v && (notTupE v || notTL tg || swsZ k.sc tg v) && !(swB k.sc v tg) && (ck G N n e).e k v && (ck G N n t).g k tg)
    | _ => false
  | .rse x m => ck1 fun k st => match st with
    | .Raise (some (.Call (.Name y _) [.Constant (.str z) _ _] [] _)) none _ => G.xr && decide (y = x) && decide (z = m) && glC k.sc y && decide (y ∈ G.exc) && !(y == ("__debug__" : Str))
    | _ => false

section
variable {CX : CXT} {G : Gv} {Φ : Nat → Spec} {n : Nat} {N : List Str} {E : L2.St → XK} {k : Sk} {X : Cx}
structure SndS (CX : CXT) (G : Gv) (Φ : Nat → Spec) (n : Nat) (N : List Str) (c : CS) : Prop where
  s : ∀ {E : L2.St → XK} {k : Sk} {X : Cx} {st : Stmt}, XOk CX G Φ n E k X → X.N = N → (cks G N n c).s k st = true → PS X st (tOfS ⟨X.K, E⟩ (wps Φ c))
  b : ∀ {E : L2.St → XK} {k : Sk} {X : Cx} {sts : List Stmt}, XOk CX G Φ n E k X → X.N = N → (cks G N n c).b k sts = true → PSs X sts (tOfS ⟨X.K, E⟩ (wps Φ c))
theorem snds1 {c : CS} (f : Sk → Stmt → Bool) (hc : cks G N n c = ck1 f) (h : ∀ {E : L2.St → XK} {k : Sk} {X : Cx} {st : Stmt}, XOk CX G Φ n E k X → X.N = N → f k st = true → PS X st (tOfS ⟨X.K, E⟩ (wps Φ c))) : SndS CX G Φ n N c := by
  refine ⟨fun {E k X st} o hN hx => ?_, fun {E k X sts} o hN hx => ?_⟩
  · rw [hc] at hx
    exact h o hN hx
  · rw [hc] at hx
    cases sts with
    | nil => cases hx
    | cons st r =>
      cases r with
      | nil => exact pss_one (h o hN hx)
      | cons _ _ => cases hx
/-- what follows an expression within a statement -/
theorem kvS {c : Ct0} {h : Addr → Bool} {ρ : Env} {σ : L2.St} {S : Sto} {H : Hp} {D' : WEnds} {D : Ends} (e : EndsOk (c.at h) ρ σ S H D' D) : XCk (c.at h).K (c.E σ) S H D'.xc := e.xc σ
theorem EndsOk.seq {C : Ctx} {ρ : Env} {σ : L2.St} {S : Sto} {H : Hp} {D' : WEnds} {D : Ends} {r : WS} {u : TS} (k : EndsOk C ρ σ S H D' D)
    (hr : ∀ ρ1 S1 σ1 H1, Sim C.K ρ1 σ1 S1 H1 → Same (fz S H) (fz S1 H1) → r ρ1 S1 D' → u D σ1 H1) : EndsOk C ρ σ S H { D' with nx := fun ρ1 S1 => r ρ1 S1 D' } { D with nx := u D } :=
  ⟨hr, k.rt, k.bk, k.ct, k.xc⟩
theorem snds_nil : SndS CX G Φ n N .nil := by
  refine ⟨fun {E k X st} o hN hx => (by cases hx), fun {E k X sts} o hN hx => ?_⟩
  have hx' : sts.isEmpty = true := hx
  cases sts with
  | cons _ _ => cases hx'
  | nil =>
    refine PSs.imp pss_nil fun D σ H q => ?_
    obtain ⟨h, ρ, S, D', s, q, k⟩ := q
    exact k.nx _ _ _ _ s (Same.refl _) q
theorem gh_imp {c : Ct0} {s r : CS} {D : Ends} {σ : L2.St} {H : Hp} (hs : isGh s = true) (q : tOfS c (wps Φ (.seq s r)) D σ H) : tOfS c (wps Φ r) D σ H := by
  obtain ⟨h, ρ, S, D', s', q, k⟩ := q
  cases s with
  | gfrz i =>
    obtain ⟨p, ws, hr, hp, q⟩ := q
    obtain ⟨v, hv, rv⟩ := s'.var i _ hr
    cases rv
    obtain ⟨u, hu, vs, rfl, r1⟩ := s'.sto.at' p _ hp
    have hf : fz (sdel S p) H p = some (.lst vs) := by rw [fz_none sdel_same]; exact hu
    have nh : ((c.at h).K).h p = false := by
      cases e : ((c.at h).K).h p with
      | false => rfl
      | true =>
        have := (s'.sto.hid p e).1
        rw [hp] at this; cases this
    have s2 : Sim (c.at h).K (ρ.set i (some (.lst ws))) (σ.set i (some (.ref p))) (sdel S p) H := (s'.to same_del s'.sto.del).set (.lst nh (.inl hf) (r1.mono same_del))
    have e : σ.set i (some (.ref p)) = σ := by
      apply List.ext_getElem?
      intro j
      by_cases hj : i = j
      · subst hj
        have hl : i < σ.length := by
          have := List.getElem?_eq_some_iff.mp hv
          exact this.1
        rw [List.getElem?_set_self hl, hv]
      · rw [List.getElem?_set_ne hj]
    rw [e] at s2
    exact ⟨h, _, _, D', s2, q, k.to same_del⟩
  | gfr2 i =>
    obtain ⟨p1, p2, xs, ys, hr, hp, hq, ne, q⟩ := q
    obtain ⟨v, hv, rv⟩ := s'.var i _ hr
    cases rv with
    | tup nk ht rr =>
      obtain _ | ⟨rx, _ | ⟨ry, _ | _⟩⟩ := rr
      cases rx
      cases ry
      obtain ⟨u1, hu1, vs1, rfl, r1⟩ := s'.sto.at' p1 _ hp
      obtain ⟨u2, hu2, vs2, rfl, r2⟩ := s'.sto.at' p2 _ hq
      have sm : Same (fz S H) (fz (sdel (sdel S p1) p2) H) := same_del.trans same_del
      have st2 : StoOk (c.at h).K (sdel (sdel S p1) p2) H := s'.sto.del.del
      have nh : ∀ {p : Addr} {o : Ob}, S p = some o → ((c.at h).K).h p = false := fun {p o} hp => by
        cases e : ((c.at h).K).h p with
        | false => rfl
        | true =>
          have := (s'.sto.hid p e).1
          rw [hp] at this; cases this
      have f1 : fz (sdel (sdel S p1) p2) H p1 = some (.lst vs1) := by rw [fz_none (by rw [sdel_ne ne, sdel_same])]; exact hu1
      have f2 : fz (sdel (sdel S p1) p2) H p2 = some (.lst vs2) := by rw [fz_none sdel_same]; exact hu2
      have s2 := (s'.to sm st2).set (i := i) (w := .tup [.lst xs, .lst ys]) (.tup nk (sm _ _ ht) (.cons (.lst (nh hp) (.inl f1) (r1.mono sm)) (.cons (.lst (nh hq) (.inl f2) (r2.mono sm)) .nil)))
      have e : ∀ v, σ[i]? = some (some v) → σ.set i (some v) = σ := fun v hv => by
        apply List.ext_getElem?
        intro j
        by_cases hj : i = j
        · subst hj
          have hl : i < σ.length := (List.getElem?_eq_some_iff.mp hv).1
          rw [List.getElem?_set_self hl, hv]
        · rw [List.getElem?_set_ne hj]
      rw [e _ hv] at s2
      exact ⟨h, _, _, D', s2, q, k.to sm⟩
  | gdrop =>
    obtain ⟨S', f, q⟩ := q
    exact ⟨h, ρ, S', D', s'.to (same_fewer f) (s'.sto.fewer f), q, k.to (same_fewer f)⟩
  | _ => cases hs
theorem snds_gh {s : CS} (hs : isGh s = true) (h1 : ∀ k st, (cks G N n s).s k st = false) (h2 : ∀ k sts, (cks G N n s).b k sts = sts.isEmpty) : SndS CX G Φ n N s := by
  refine ⟨fun {E k X st} o hN hx => (by rw [h1] at hx; cases hx), fun {E k X sts} o hN hx => ?_⟩
  rw [h2] at hx
  cases sts with
  | cons _ _ => cases hx
  | nil =>
    refine PSs.imp (snds_nil.b (sts := []) o hN rfl) fun D σ H q => gh_imp hs ?_
    obtain ⟨h, ρ, S, D', s', q, k⟩ := q
    exact ⟨h, ρ, S, D', s', q, k⟩
theorem snds_seq {s r : CS} (h1 : SndS CX G Φ n N s) (h2 : SndS CX G Φ n N r) : SndS CX G Φ n N (.seq s r) := by
  refine ⟨fun {E k X st} o hN hx => (by cases hx), fun {E k X sts} o hN hx => ?_⟩
  by_cases hg : isGh s = true
  · have hx' : (cks G N n r).b k sts = true := by
      have : (if isGh s = true then (cks G N n r).b k sts else _) = true := hx
      rwa [if_pos hg] at this
    exact PSs.imp (h2.b o hN hx') fun D σ H q => gh_imp hg q
  · cases sts with
    | nil =>
      have : (if isGh s = true then (cks G N n r).b k [] else false) = true := hx
      rw [if_neg hg] at this
      cases this
    | cons st rest =>
      have hx' : (if isGh s = true then (cks G N n r).b k (st :: rest) else (cks G N n s).s k st && (cks G N n r).b k rest) = true := hx
      rw [if_neg hg, Bool.and_eq_true] at hx'
      refine PSs.imp (pss_cons (h1.s o hN hx'.1) (h2.b o hN hx'.2)) fun D σ H q => ?_
      obtain ⟨h, ρ, S, D', s', q, k'⟩ := q
      exact ⟨h, ρ, S, _, s', q, k'.seq fun ρ1 S1 σ1 H1 s1 e1 q1 => ⟨h, ρ1, S1, D', s1, q1, k'.to e1⟩⟩
theorem snds_asg {t e : CE} : SndS CX G Φ n N (.asg t e) := by
  refine snds1 _ rfl fun {E k X st} o hN hx => ?_
  split at hx
  · rename_i tg v pos
    simp only [Bool.and_eq_true] at hx
    obtain ⟨⟨⟨⟨h1, h2⟩, h3⟩, h4⟩, h5⟩ := hx
    have sw := sw_eq (l := pos.line) (value := v) (tg := tg) o.sc h1 h3
    have fin : ∀ {D : Ends} {σ : L2.St} {H : Hp}, tOfS ⟨X.K, E⟩ (wps Φ (.asg t e)) D σ H → tAsg (tOf ⟨X.K, E⟩ (wp Φ e).e) (tOfG ⟨X.K, E⟩ (als t) (wp Φ t).g) D σ H := fun q => by
      obtain ⟨h, ρ, S, D', s', q, k'⟩ := q
      refine ⟨h, ρ, S, _, _, s', q, fun w S1 v H1 s1 e1 r1 q1 => ?_, k'.xc _⟩
      exact ⟨h, w, ρ, S1, _, s1, r1, q1, fun ρ2 S2 σ2 H2 s2 e2 _ q2 => k'.nx _ _ _ _ s2 (e1.trans e2) q2⟩
    by_cases hs : swB k.sc v tg = true
    · rw [if_pos hs] at h5
      unfold ckL at h5
      split at h5
      · rename_i i live own tg' it cond elt y py x t' i' ifs scope p2
        simp only [Bool.and_eq_true] at h5
        obtain ⟨⟨⟨⟨⟨⟨⟨⟨b1, b2⟩, a1⟩, a2⟩, a3⟩, a4⟩, a5⟩, a6⟩, a7⟩ := h5
        have b2' : X.env.scope.names.lookup y = some .local := by rw [o.sc]; exact of_decide_eq_true b2
        have ok : BlkOk X.N X.env.scope scope own := by rw [hN, o.sc]; exact blkOk_by a1
        rw [hs] at sw
        refine PS.imp (ps_setLc (i := i) (g := tOfG ⟨X.K, fun _ => E0⟩ (als tg') (wp Φ tg').g) (tt := tOfT ⟨X.K, fun _ => E0⟩ fun ρ S Q _ => (wp Φ cond).c ρ S Q) (te := tOf ⟨X.K, fun _ => E0⟩ (wp Φ elt).e) o.calm o.nd
          (by rw [hN]; exact of_decide_eq_true b1) b2' sw ((snd_all it).i o hN a4) ok (fun s H C cl fp => (snd_all tg').g (ok_blk o) hN a5) (fun s H C cl fp => (snd_all cond).cc (ok_blk o) hN a6) (fun s H C cl fp => (snd_all elt).e (ok_blk o) hN a7) (fold_of a2)) fun D σ H q => ?_
        obtain ⟨h, ρ, S, D', s', q, k'⟩ := q
        refine imp_lc (c := ⟨X.K, E⟩) (c' := ⟨X.K, fun _ => E0⟩) rfl (fun j hj => by simpa using List.all_eq_true.mp a3 j hj) ⟨h, ρ, S, _, _, s', q, fun w S1 v H1 s1 e1 r1 q1 => ?_, k'.xc _⟩
        exact k'.nx _ _ _ _ (s1.set r1) e1 q1
      · cases h5
    · rw [if_neg hs, Bool.and_eq_true] at h5
      have hs' : swB k.sc v tg = false := by simpa using hs
      rw [hs'] at sw
      exact PS.imp (ps_asg ((snd_all e).e o hN h5.1) ((snd_all t).g o hN h5.2) sw (by rw [Bool.or_eq_true] at h4; exact h4.elim sws_none (sws_zero o.sc)) (by rw [asg_of h2]; rfl)) fun D σ H q => fin q
  · cases hx
theorem setAll2 {ρ : Env} {i j : Nat} {w v : W} : setAll ρ [i, j] [w, v] = (ρ.set i (some w)).set j (some v) := rfl
theorem snds_par {is : List Nat} {es : CE} : SndS CX G Φ n N (.par is es) := by
  refine snds1 _ rfl fun {E k X st} o hN hx => ?_
  split at hx
  · rename_i x px y py k1 p1 a b k2 p2 pos i j
    simp only [Bool.and_eq_true] at hx
    obtain ⟨⟨⟨⟨⟨⟨⟨⟨h1, h2⟩, h3⟩, h4⟩, h5⟩, h6⟩, h7⟩, h8⟩, h9⟩ := hx
    have hw := sws_eq (k := k1) (p := p1) (k2 := k2) (p2 := p2) o.sc h1 h2
    rw [of_decide_eq_true h3] at hw
    refine PS.imp (ps_par (i := i) (j := j) o.calm o.nd (by rw [hN]; exact of_decide_eq_true h4) (by rw [hN]; exact of_decide_eq_true h5) (of_decide_eq_true h6) (by rw [o.sc]; exact of_decide_eq_true h7) (by rw [o.sc]; exact of_decide_eq_true h8) ((snd_all es).es o hN h9) hw) fun D σ H q => ?_
    obtain ⟨h, ρ, S, D', s', q, k'⟩ := q
    refine ⟨h, ρ, S, _, _, s', q, fun ws S1 vs H1 s1 e1 r1 q1 => ?_, k'.xc _⟩
    obtain ⟨hl, q1⟩ := q1
    match ws, hl, r1, q1 with
    | [w1, w2], _, .cons r1 (.cons r2 .nil), q1 => exact ⟨_, _, rfl, k'.nx _ _ _ _ ((s1.set r1).set r2) e1 q1⟩
  · rename_i x px y py z pz k1 p1 a b c k2 p2 pos i j l
    simp only [Bool.and_eq_true] at hx
    obtain ⟨⟨⟨⟨⟨⟨⟨⟨⟨⟨⟨⟨h1, h2⟩, h3⟩, h4⟩, h5⟩, h6⟩, h7⟩, h8⟩, h9⟩, g1⟩, g2⟩, g3⟩, g4⟩ := hx
    have hw := sws_eq (k := k1) (p := p1) (k2 := k2) (p2 := p2) o.sc h1 h2
    rw [of_decide_eq_true h3] at hw
    refine PS.imp (ps_par3 (i := i) (j := j) (l := l) o.calm o.nd (by rw [hN]; exact of_decide_eq_true h4) (by rw [hN]; exact of_decide_eq_true h5) (by rw [hN]; exact of_decide_eq_true h6) (of_decide_eq_true h7) (of_decide_eq_true h8) (of_decide_eq_true h9)
      (by rw [o.sc]; exact of_decide_eq_true g1) (by rw [o.sc]; exact of_decide_eq_true g2) (by rw [o.sc]; exact of_decide_eq_true g3) ((snd_all es).es o hN g4) hw) fun D σ H q => ?_
    obtain ⟨h, ρ, S, D', s', q, k'⟩ := q
    refine ⟨h, ρ, S, _, _, s', q, fun ws S1 vs H1 s1 e1 r1 q1 => ?_, k'.xc _⟩
    obtain ⟨hl, q1⟩ := q1
    match ws, hl, r1, q1 with
    | [w1, w2, w3], _, .cons r1 (.cons r2 (.cons r3 .nil)), q1 => exact ⟨_, _, _, rfl, k'.nx _ _ _ _ (((s1.set r1).set r2).set r3) e1 q1⟩
  · cases hx
theorem ip_of {sb : Bool} : PIp X (if sb = true then Operator.Sub else Operator.Add) (ipI (augI sb)) := by
  cases sb with
  | true => exact ip_sub
  | false => exact ip_add
theorem snds_aug {i : Nat} {sb : Bool} {e : CE} : SndS CX G Φ n N (.aug i sb e) := by
  refine snds1 _ rfl fun {E k X st} o hN hx => ?_
  split at hx
  · rename_i x px op v pos
    simp only [Bool.and_eq_true] at hx
    obtain ⟨⟨⟨h1, h2⟩, h3⟩, h4⟩ := hx
    obtain rfl := of_decide_eq_true h1
    have l := loc_of o h3
    refine PS.imp (ps_aug (i := i) o.nd (by rw [hN]; exact of_decide_eq_true h2) l.1 ((snd_all e).e o hN h4) ip_of l.2) fun D σ H q => ?_
    obtain ⟨h, ρ, S, D', s', ⟨w, hw, q⟩, k'⟩ := q
    obtain ⟨u, hu, ru⟩ := s'.var i _ hw
    refine ⟨u, hu, h, ρ, S, _, _, s', q, fun y S1 v H1 s1 e1 r1 q1 => ?_, k'.xc _⟩
    obtain ⟨a, b, rfl, rfl, q1⟩ := q1
    cases r1; cases ru
    exact ⟨_, _, rfl, rfl, k'.nx _ _ _ _ (s1.set (.int _)) e1 q1⟩
  · cases hx
theorem snds_augS {a i : CE} {sb : Bool} {e : CE} : SndS CX G Φ n N (.augS a i sb e) := by
  refine snds1 _ rfl fun {E k X st} o hN hx => ?_
  split at hx
  · rename_i x y px op v pos
    simp only [Bool.and_eq_true] at hx
    obtain ⟨⟨⟨⟨h1, h2⟩, h3⟩, h4⟩, h5⟩ := hx
    obtain rfl := of_decide_eq_true h1
    have hu : X.A.units + 1 < cLine := by have := units_of o.room; omega
    refine PS.imp (ps_augS ((snd_all a).e o hN h3) ((snd_all i).e o hN h4) (pget hu) ((snd_all e).e o hN h5) ip_of (set_all hu) ?_) fun D σ H q => ?_
    · intro ov iv new
      cases y <;> first | rfl | exact Bool.noConfusion h2
    · obtain ⟨h, ρ, S, D', s', q, k'⟩ := q
      refine ⟨h, ρ, S, _, _, s', q, fun x S1 vx H1 s1 e1 r1 q1 => ⟨h, ρ, S1, _, _, s1, q1, fun y S2 vy H2 s2 e2 r2 q2 => ?_, (k'.xc _).to e1⟩, k'.xc _⟩
      refine get_int (C := (⟨X.K, E⟩ : Ct0).at h) s2 (r1.mono e2) r2 q2.1 q2.2 fun w S3 v H3 s3 e3 r3 q3 => ?_
      refine ⟨h, ρ, S3, _, _, s3, q3, fun z S4 vz H4 s4 e4 r4 q4 => ?_, (k'.xc _).to ((e1.trans e2).trans e3)⟩
      obtain ⟨m1, m2, rfl, rfl, q4⟩ := q4
      cases r3; cases r4
      refine ⟨_, _, rfl, rfl, ?_⟩
      exact sets (C := (⟨X.K, E⟩ : Ct0).at h) s4 (r1.mono ((e2.trans e3).trans e4)) (r2.mono (e3.trans e4)) (.int _) q4 fun S5 H5 s5 e5 q5 => k'.nx _ _ _ _ s5 ((((e1.trans e2).trans e3).trans e4).trans e5) q5
  · cases hx
theorem snds_expr {e : CE} : SndS CX G Φ n N (.expr e) := by
  refine snds1 _ rfl fun {E k X st} o hN hx => ?_
  split at hx
  · rename_i v pos
    simp only [Bool.and_eq_true] at hx
    obtain ⟨⟨h1, h2⟩, h3⟩ := hx
    refine PS.imp (ps_expr ((snd_all e).e o hN h3) ?_) fun D σ H q => ?_
    · cases v <;> first | rfl | exact Bool.noConfusion h1 | exact Bool.noConfusion h2
    · obtain ⟨h, ρ, S, D', s', q, k'⟩ := q
      exact ⟨h, ρ, S, _, _, s', q, fun w S1 v H1 s1 e1 r1 q1 => k'.nx _ _ _ _ s1 e1 q1, k'.xc _⟩
  · cases hx
theorem snds_ret {e : CE} : SndS CX G Φ n N (.ret e) := by
  refine snds1 _ rfl fun {E k X st} o hN hx => ?_
  split at hx
  · refine PS.imp (ps_ret ((snd_all e).e o hN hx)) fun D σ H q => ?_
    obtain ⟨h, ρ, S, D', s', q, k'⟩ := q
    exact ⟨h, ρ, S, _, _, s', q, fun w S1 v H1 s1 e1 r1 q1 => k'.rt _ _ _ _ s1.sto e1 r1 q1, k'.xc _⟩
  · cases hx
theorem snds_retN : SndS CX G Φ n N .retN := by
  refine snds1 _ rfl fun {E k X st} o hN hx => ?_
  split at hx
  · refine PS.imp ps_retN fun D σ H q => ?_
    obtain ⟨h, ρ, S, D', s', q, k'⟩ := q
    exact k'.rt _ _ _ _ s'.sto (Same.refl _) .non q
  · cases hx
theorem snds_iff {t : CE} {a b : CS} (h1 : SndS CX G Φ n N a) (h2 : SndS CX G Φ n N b) : SndS CX G Φ n N (.iff t a b) := by
  refine snds1 _ rfl fun {E k X st} o hN hx => ?_
  split at hx
  · simp only [Bool.and_eq_true] at hx
    refine PS.imp (ps_if ((snd_all t).t o hN hx.1.1) (h1.b o hN hx.1.2) (h2.b o hN hx.2)) fun D σ H q => ?_
    obtain ⟨h, ρ, S, D', s', q, k'⟩ := q
    refine ⟨h, ρ, S, _, _, s', q, fun r S1 H1 s1 e1 q1 => ?_, k'.xc _⟩
    cases r with
    | true =>
      rw [if_pos rfl] at q1
      exact iteT ⟨h, ρ, S1, D', s1, q1, k'.to e1⟩
    | false =>
      rw [if_neg Bool.false_ne_true] at q1
      exact iteF ⟨h, ρ, S1, D', s1, q1, k'.to e1⟩
  · cases hx
theorem snds_fr {t it : CE} {b : CS} (h : SndS CX G Φ n N b) : SndS CX G Φ n N (.fr t it b) := by
  refine snds1 _ rfl fun {E k X st} o hN hx => ?_
  split at hx
  · simp only [Bool.and_eq_true] at hx
    obtain ⟨⟨⟨h1, h2⟩, h3⟩, h4⟩ := hx
    exact PS.imp (ps_for o.own o.calm ((snd_all it).i o hN h2) ((snd_all t).g o hN h3) (h.b o hN h4) (fold_of h1)) fun D σ H q => imp_for q
  · cases hx
theorem snds_whl {t : CE} {b : CS} (h : SndS CX G Φ n N b) : SndS CX G Φ n N (.whl t b) := by
  refine snds1 _ rfl fun {E k X st} o hN hx => ?_
  split at hx
  · simp only [Bool.and_eq_true] at hx
    exact PS.imp (ps_while o.own ((snd_all t).t o hN hx.1) (h.b o hN hx.2)) fun D σ H q => imp_while q
  · cases hx
theorem snds_cont : SndS CX G Φ n N .cont := by
  refine snds1 _ rfl fun {E k X st} o hN hx => ?_
  split at hx
  · refine PS.imp ps_continue fun D σ H q => ?_
    obtain ⟨h, ρ, S, D', s', q, k'⟩ := q
    exact k'.ct _ _ _ _ s' (Same.refl _) q
  · cases hx
theorem snds_brk : SndS CX G Φ n N .brk := by
  refine snds1 _ rfl fun {E k X st} o hN hx => ?_
  split at hx
  · refine PS.imp ps_break fun D σ H q => ?_
    obtain ⟨h, ρ, S, D', s', q, k'⟩ := q
    exact k'.bk _ _ _ _ s' (Same.refl _) q
  · cases hx
theorem snds_pass : SndS CX G Φ n N .pass := by
  refine snds1 _ rfl fun {E k X st} o hN hx => ?_
  split at hx
  · refine PS.imp ps_pass fun D σ H q => ?_
    obtain ⟨h, ρ, S, D', s', q, k'⟩ := q
    exact k'.nx _ _ _ _ s' (Same.refl _) q
  · cases hx
theorem snds_never : SndS CX G Φ n N .never := by
  refine ⟨fun {E k X st} o hN hx => PS.imp ps_never fun D σ H q => ?_, fun {E k X sts} o hN hx => PSs.imp pss_never fun D σ H q => ?_⟩
  all_goals
    obtain ⟨h, ρ, S, D', s', q, k'⟩ := q
    exact q.elim
theorem snds_tca {i j : Nat} {x : Str} {xs : List Str} {t e : CE} : SndS CX G Φ n N (.tca i j x xs t e) := by
  refine snds1 _ rfl fun {E k X st} o hN hx => ?_
  split at hx
  · rename_i tg v apos y yp nn mm mp n2 np spos hpos pos
    simp only [Bool.and_eq_true, decide_eq_true_eq, Bool.not_eq_true', Option.isNone_iff_eq_none] at hx
    obtain ⟨⟨⟨⟨⟨⟨⟨a1, a2⟩, a3⟩, a4⟩, a5⟩, a6⟩, ⟨⟨⟨⟨⟨b1, b2⟩, b3⟩, b4⟩, b5⟩, b6⟩⟩, ⟨⟨⟨⟨⟨⟨⟨c0, h1⟩, h2⟩, h3⟩, h4⟩, h5⟩, h6⟩, h7⟩⟩ := hx
    subst a3 a6
    obtain ⟨st1, st2, st3⟩ := o.top a1 a2
    have F := o.g.tcs _ _ c0
    have hcx := o.g.cx a1
    have hfm : X.fn mm = true := o.fn mm (by rw [a2]; exact fun _ z => nomatch z)
    refine PS.imp (ps_try_kept (i := i) (j := j) (c := .ref (clsA X.K y)) (tb := fun W => tAsg (tOf ⟨X.K, L2.WE W⟩ (wp Φ e).e) (tOfG ⟨X.K, L2.WE W⟩ (als t) (wp Φ t).g)) st1 st2 st3 o.nd (by rw [hN]; exact b1) (by show X.env.scope.names.lookup n2 = _; rw [o.sc]; exact b3) (.inl (by rw [o.sc]; exact b3)) (by rw [hN]; exact b2) (by show X.env.scope.names.lookup mm = _; rw [o.sc]; exact b4) (.inl hfm) ⟨gl_of o a4, a5, .inl F.gC⟩ b5 b6 (fun W pn xe tk own => ?_)) fun D σ H q => ?_
    · have o' : XOk CX G Φ n (L2.WE W) k (X.tr pn xe) := ⟨o.g, o.calm, o.nd, o.room, o.gd, o.rpn, o.sc, o.fn, by rw [hcx]; exact fun σ => passAt tk σ, own, fun _ => tk, fun z w => o.top z w⟩
      have sw := sw_eq (env := X.env) (l := apos.line) (value := v) (tg := tg) o.sc h1 h3
      rw [h5] at sw
      rw [Bool.or_eq_true] at h4
      exact pss_one (ps_asg ((snd_all e).e o' hN h6) ((snd_all t).g o' hN h7) sw (h4.elim (fun z => sws_none (by simpa using z)) (sws_zero o.sc)) (by rw [asg_of h2]; rfl))
    · obtain ⟨h, ρ, S, D', s', q, k'⟩ := q
      refine ⟨h, ρ, S, _, _, s', q, fun w S1 v H1 s1 e1 r1 q1 => ?_, fun ex S2 H2 d k2 e2 r2 q2 => ?_⟩
      · exact ⟨h, w, ρ, S1, _, s1, r1, q1, fun ρ2 S3 σ2 H3 s2 e2 _ q2 => k'.nx _ _ _ _ s2 (e1.trans e2) q2⟩
      · obtain ⟨q3, q4, q5⟩ := q2
        refine ⟨?_, F.ex _ q4, fun a ha => ?_⟩
        · unfold XRep at r2
          rw [q3] at r2
          exact r2
        · have hS : S2 a = none := k2.free ha
          have k3 := k2.newc (ob := .exn ex.cls) (o := ExA (.ref (clsA X.K ex.cls)) a) ha rfl
          have e3 := same_newc (ob := .exn ex.cls) (o := ExA (.ref (clsA X.K ex.cls)) a) k2 ha
          have s3 := s'.to (e2.trans e3) k3
          refine k'.nx _ _ _ _ ⟨fun l w hw => ?_, by simpa using s3.len, k3⟩ (e2.trans e3) (q5 a hS)
          by_cases li : l = i
          · subst li
            rw [List.getElem?_set] at hw
            simp at hw
          · rw [List.getElem?_set_ne (Ne.symm li)] at hw ⊢
            by_cases lj : l = j
            · subst lj
              have hl : l < ρ.length := by have := (List.getElem?_eq_some_iff.mp hw).1; simpa using this
              rw [List.getElem?_set_self hl] at hw
              cases hw
              rw [List.getElem?_set_self (by have := s3.len; simp; omega)]
              exact ⟨.ref a, rfl, .ref _⟩
            · rw [List.getElem?_set_ne (Ne.symm lj)] at hw ⊢
              rw [List.getElem?_set_ne (Ne.symm li)]
              exact s3.var l w hw
  · cases hx
theorem snds_rse {x m : Str} : SndS CX G Φ n N (.rse x m) := by
  refine snds1 _ rfl fun {E k X st} o hN hx => ?_
  split at hx
  · rename_i y p z j p2 pos pos2
    simp only [Bool.and_eq_true, decide_eq_true_eq, Bool.not_eq_true'] at hx
    obtain ⟨⟨⟨⟨⟨h1, h2⟩, h3⟩, h4⟩, h5⟩, h6⟩ := hx
    obtain ⟨gC, ⟨bmB, B, nI, iI, F, q⟩, kC, es, et⟩ := o.g.exc _ h5
    refine PS.imp (ps_raise o.calm (o.tk h1) (pmk_own F q gC kC (raises_own es et) (gl_of o h4) h6)) fun D σ H q => ?_
    obtain ⟨h, ρ, S, D', s', q, k'⟩ := q
    subst h2
    exact k'.xc σ ⟨y, none⟩ S H none s'.sto (Same.refl _) rfl q
  · cases hx
theorem snds_all : ∀ c : CS, SndS CX G Φ n N c := by
  intro c
  induction c with
  | nil => exact snds_nil
  | seq s r h1 h2 => exact snds_seq h1 h2
  | asg t e => exact snds_asg
  | par is es => exact snds_par
  | aug i sb e => exact snds_aug
  | augS o i sb e => exact snds_augS
  | expr e => exact snds_expr
  | ret e => exact snds_ret
  | retN => exact snds_retN
  | iff t a b h1 h2 => exact snds_iff h1 h2
  | fr t it b h => exact snds_fr h
  | whl t b h => exact snds_whl h
  | cont => exact snds_cont
  | pass => exact snds_pass
  | brk => exact snds_brk
  | gfrz i => exact snds_gh rfl (fun _ _ => rfl) (fun _ _ => rfl)
  | gfr2 i => exact snds_gh rfl (fun _ _ => rfl) (fun _ _ => rfl)
  | gdrop => exact snds_gh rfl (fun _ _ => rfl) (fun _ _ => rfl)
  | never => exact snds_never
  | rse x m => exact snds_rse
  | tca i j x xs t e => exact snds_tca
end
end MP

set_option Elab.async false
set_option linter.all false
set_option maxRecDepth 100000
set_option maxHeartbeats 4000000
/-! MP13: defs by their cores; the module's context; the law's end. -/
namespace MP
open PySem PySem.Spec PyProof.Rows L2

def startW (N : List Str) (ws : List W) : Env := ws.map some ++ List.replicate (N.length - ws.length) none
theorem start_get : ∀ {ws : List W} {vs : List V} {K : KH} {F : Hp} {m i : Nat} {w : W}, RepL K F ws vs → (ws.map some ++ List.replicate m none)[i]? = some (some w) → ∃ v, (vs.map some ++ List.replicate m (none : Option V))[i]? = some (some v) ∧ Rep K F w v
  | [], _, K, F, m, i, w, .nil, h => by
    exfalso
    rw [List.map_nil, List.nil_append] at h
    by_cases hi : i < m
    · rw [List.getElem?_replicate_of_lt hi] at h; cases h
    · rw [List.getElem?_eq_none (by rw [List.length_replicate]; omega)] at h; cases h
  | w0 :: ws, _, K, F, m, 0, w, .cons r rs, h => by
    have e : w0 = w := by simpa using h
    subst e
    exact ⟨_, rfl, r⟩
  | w0 :: ws, _, K, F, m, i + 1, w, .cons r rs, h => start_get (ws := ws) (m := m) (i := i) rs h
theorem sim_start {K : KH} {S : Sto} {H : Hp} {N : List Str} {ws : List W} {vs : List V} (r : RepL K (fz S H) ws vs) (k : StoOk K S H) : Sim K (startW N ws) (L2.start N vs) S H := by
  refine ⟨fun i w h => ?_, ?_, k⟩
  · unfold startW at h
    unfold L2.start
    rw [← r.length]
    exact start_get r h
  · unfold startW L2.start
    rw [List.length_append, List.length_append, List.length_map, List.length_map, List.length_replicate, List.length_replicate, r.length]
/-- what a def's body is to reach: what it leaves beside is forgotten -/
def dNx (Q : WK) : Env → Sto → Prop := fun _ S' => ∃ S2, Fewer S2 S' ∧ Q .non S2
def dRt (Q : WK) : WK := fun w S' => ∃ S2, Fewer S2 S' ∧ Q w S2
def dNo : Env → Sto → Prop := fun _ _ => False
def dXc (X : XC) : XC := fun e S' => ∃ S2, Fewer S2 S' ∧ X e S2
def dEnds (Q : WK) (X : XC) : WEnds := ⟨dNx Q, dRt Q, dNo, dNo, dXc X⟩
theorem dXc_no {e : Exn} {S : Sto} (h : dXc XN e S) : False := by
  obtain ⟨_, _, z⟩ := h
  exact z
section
variable {P : Program} {w : World} {K : PySem.W.Frag} {mg : Str → Option Value} {base : Heap} {G : Gv} {Φ : Nat → Spec} {n : Nat}
/-- a def keeps its spec -/
theorem def_ok {x qual : Str} {st : Stmt} {f : Addr} {fd : FuncData} {N ps : List Str} {c : CS} (F : Fun K x qual st f fd) (Z : FnScope N ps (defScope st)) (g : GOk P w K mg base CX0 G Φ n)
    (hc : (cks G N n c).b ⟨defScope st, none⟩ (defBody st) = true) (hl : ∀ ws S Q X, Φ n ws S Q X → ws.length = ps.length)
    (h : ∀ ws S Q X, Φ n ws S Q X → wps Φ c (startW N ws) S (dEnds Q XN)) (hrp : G.rp = false := by rfl) (hxr : G.xr = false := by rfl) : FnOk P w K mg base CX0 (n + 1) f fd ps (spOf K (Φ n)) := by
  refine F.ok Z (fun vs H Q E q => ?_) (fun cdv A outer s H vs Q E hr q => ?_)
  · obtain ⟨hh, ws, S, Qw, Xw, r, _, q, _⟩ := q
    rw [← r.length]
    exact hl _ _ _ _ q
  · obtain ⟨hh, ws, S, Qw, Xw, r, k, q, kv, _⟩ := q
    have o : XOk CX0 G Φ n (fun _ => E0) ⟨defScope st, none⟩ (cxOf CX0 P w K mg base N qual (defScope st) f cdv A outer s H E).nox :=
      ⟨g, rfl, Z.nd, hr, (fun z => by rw [hrp] at z; cases z), (fun z => by rw [hrp] at z; cases z), rfl, fun _ _ => rfl, fun _ _ _ _ _ _ _ z => z.elim, PassesOwn.never, (fun z => by rw [hxr] at z; cases z), fun _ _ => ⟨rfl, rfl, rfl⟩⟩
    refine ⟨_, (snds_all c).b o rfl hc, ?_⟩
    refine ⟨hh, startW N ws, S, dEnds Qw XN, sim_start r k, h _ _ _ _ q, ?_, ?_, ?_, ?_, ?_⟩
    · rintro ρ' S' σ' H' s1 e1 ⟨S2, f2, q2⟩
      exact kv _ _ _ _ (s1.sto.fewer f2) (e1.trans (same_fewer f2)) .non q2
    · rintro w' S' v H' k1 e1 r1 ⟨S2, f2, q2⟩
      exact kv _ _ _ _ (k1.fewer f2) (e1.trans (same_fewer f2)) (r1.mono (same_fewer f2)) q2
    · exact fun _ _ _ _ _ _ z => z.elim
    · exact fun _ _ _ _ _ _ z => z.elim
    · exact fun _ => fun x S2 H2 d k' e' r z => (dXc_no z).elim
/-- the defs so far, one more -/
theorem GOk.step {CX : CXT} (g : GOk P w K mg base CX G Φ n) {x : Str} {m : Nat} {f : Addr} {fd : FuncData} {ps : List Str} (hx : G.fns[n]? = some (x, m)) (hm : mg x = some (.ref f)) (hk : PySem.W.keepIn K (.ref f) = true) (hl : ps.length = m) (hb : Binds K fd ps [])
    (F : FnOk P w K mg base CX (n + 1) f fd ps (spOf K (Φ n))) : GOk P w K mg base CX G Φ (n + 1) where
  fns := fun i y l hy hi => by
    by_cases e : i = n
    · subst e
      rw [hx] at hy
      cases hy
      exact ⟨f, fd, ps, hm, hk, hl, hb, F⟩
    · exact g.fns i y l hy (by omega)
  blt := g.blt
  more := g.more
  glb := g.glb
  e0 := g.e0
  exc := g.exc
  isx := g.isx
  tcs := g.tcs
  cx := g.cx
theorem GOk.zero (hb : ∀ b : Blt, mg b.nm = none) (hm : mg "range" = none ∧ mg "zip" = none ∧ mg "enumerate" = none ∧ mg "isinstance" = none ∧ mg "set" = none ∧ mg "sorted" = none ∧ mg "dict" = none ∧ mg "reversed" = none ∧ mg "bool" = none) (hg : G.glb = []) (he : ∀ x, x ∈ G.exc → ExcF K mg x := by exact fun x h => nomatch h) (hi : ∀ x ds xs, (x, ds, xs) ∈ G.isx → IsxF K mg x ds xs := by exact fun x ds xs h => nomatch h) (ht : ∀ x xs, (x, xs) ∈ G.tcs → TcsF K mg x xs := by exact fun x xs h => nomatch h) (hr : G.tr = false := by rfl) :
    GOk P w K mg base CX0 G Φ 0 where
  fns := fun _ _ _ _ h => absurd h (Nat.not_lt_zero _)
  blt := hb
  more := hm
  glb := fun x c h => by rw [hg] at h; cases h
  e0 := fun _ _ _ _ _ _ _ _ _ _ z => z.elim
  exc := he
  isx := hi
  tcs := ht
  cx := fun z => by rw [hr] at z; cases z
/-- a constant's value -/
def CstIs : Const → Value → Prop
  | .int i, u => ∃ t, u = Value.int i t
  | .str x, u => ∃ t, u = Value.str x t
  | _, _ => False
theorem GOk.zeroG (hb : ∀ b : Blt, mg b.nm = none) (hm : mg "range" = none ∧ mg "zip" = none ∧ mg "enumerate" = none ∧ mg "isinstance" = none ∧ mg "set" = none ∧ mg "sorted" = none ∧ mg "dict" = none ∧ mg "reversed" = none ∧ mg "bool" = none)
    (hg : ∀ x c, (x, c) ∈ G.glb → ∃ u, mg x = some u ∧ CstIs c u) (he : ∀ x, x ∈ G.exc → ExcF K mg x := by exact fun x h => nomatch h) (hi : ∀ x ds xs, (x, ds, xs) ∈ G.isx → IsxF K mg x ds xs := by exact fun x ds xs h => nomatch h) (ht : ∀ x xs, (x, xs) ∈ G.tcs → TcsF K mg x xs := by exact fun x xs h => nomatch h) (hr : G.tr = false := by rfl) : GOk P w K mg base CX0 G Φ 0 where
  fns := fun _ _ _ _ h => absurd h (Nat.not_lt_zero _)
  blt := hb
  more := hm
  glb := fun x c h => by
    obtain ⟨u, h1, h2⟩ := hg x c h
    cases c with
    | int i => exact ⟨u, .int i, .int i, rfl, h1, h2, fun _ _ => .int i⟩
    | str i => exact ⟨u, .str i, .str i, rfl, h1, h2, fun _ _ => .str i⟩
    | _ => exact h2.elim
  e0 := fun _ _ _ _ _ _ _ _ _ _ z => z.elim
  exc := he
  isx := hi
  tcs := ht
  cx := fun z => by rw [hr] at z; cases z
end
/-- the law's own promise -/
def spLaw (ns : List Int) : Prop := ns.length ≤ 63
/-- nothing stands -/
def S00 : Sto := fun _ => none
theorem stoOk0 {K : PySem.W.Frag} {H : Hp} : StoOk ⟨K, fun _ => false⟩ S00 H := ⟨fun _ _ h => (by cases h), fun _ h => (by cases h)⟩
def lawSpec (n : Nat) : Spec := fun ws S Q _ => ∃ ns : List Int, ws = [.lst (ns.map W.int)] ∧ ns.length ≤ n ∧ S = S00 ∧ Q (.bl true) S00
theorem rep_ints {K : KH} {F : Hp} : ∀ ns : List Int, RepL K F (ns.map W.int) (ns.map V.int)
  | [] => .nil
  | n :: ns => .cons (.int n) (rep_ints ns)
theorem walk_ofM {l : PySem.W.OpenLaw} {n k : Nat} {q : Program} {loose : List Str} {XP : (Str → Option Value) → Heap → Prop} {YP : World → Heap → Prop} {d : DefRec} {K : Params → PySem.W.Frag} {x : Str} {sp : Spec}
    (hn : l.most = some n) (hn2 : n ≤ sizeLine) (hdf : d.params.defaults = []) (hr : Room k callerA) (hY : ∀ (w : World) (h : Heap), YP w h → (K w.params).In h) (hs : sp = lawSpec n)
    (F : ∀ (w : World) (mg : Str → Option Value) (fa : Addr) (h : Heap), (K w.params).In h → h.Ns mainGlobals mg → mg d.name = some (.ref fa) →
      ∃ fd : FuncData, (∀ (s : Shared) (u : Value), BindsTo s fd ⟨[u], []⟩ [(x, u)]) ∧ ∀ base : Heap, (K w.params).In base → base.Ns mainGlobals mg → FnOk l.prog w (K w.params) mg base CX0 k fa fd [x] (spOf (K w.params) sp)) :
    PySem.W.WalkO q loose XP YP l.row.toRowW d [] (fun f vs => PySem.call f vs) := by
  refine Att.attach_call hn hdf fun w' sA sB mg' mb' fa' ob' pm' cd' doc' ad' vs' ns' G' Y' ho' hd' hcd' hmg' hobj' hints' hlen' hgens' => ?_
  have KX' := hY w' _ Y'
  obtain ⟨fd', hb', hF'⟩ := F w' mg' fa' _ KX' G'.T.g hmg'
  refine law_call KX' G'.T.g G'.T.b G'.T.builtins G'.T.nolimit hgens' hobj' hints' (Nat.le_trans hlen' hn2) hr hF' hb' (fun H _ hS => ?_) fun _ _ _ z => z
  subst hs
  refine ⟨fun _ => false, [.lst (ns'.map W.int)], S00, fun y _ => y = .bl true, XN, .cons ?_ .nil, stoOk0, ⟨ns', rfl, hlen', rfl, rfl⟩, ?_, XCk.no⟩
  · rcases hS with hS | ⟨o', its', m', hk', hc', hdd', hda', hz', hv'⟩
    · exact .lst rfl hS (rep_ints ns')
    · have e := KX' _ _ hk'
      rw [hobj'] at e
      cases e
      cases hda'
      exact .klst ⟨_, _, hk', hz', hv'⟩ (rep_ints ns')
  · rintro y S' v H' _ _ r rfl
    cases r
    rfl
end MP

set_option Elab.async false
set_option linter.all false
set_option maxRecDepth 100000
set_option maxHeartbeats 4000000
/-! MX: defs that may raise. -/
namespace MP
open PySem PySem.Spec PyProof.Rows L2
section
variable {P : Program} {w : World} {K : PySem.W.Frag} {mg : Str → Option Value} {base : Heap} {G : Gv} {Φ : Nat → Spec} {n : Nat}
theorem XCk.down {Kh : KH} {E : XK} {S : Sto} {H : Hp} {X : XC} (hx : ∀ e S', X e S' → e.nm = none) (k : XCk Kh E S H X) : XCk Kh E S H (dXc X) := fun x S' H' d k' e r ⟨S2, f2, q2⟩ => by
  refine k x S2 H' d (k'.fewer f2) (e.trans (same_fewer f2)) ?_ q2
  unfold XRep at r ⊢
  rw [hx x S2 q2] at r ⊢
  exact r
/-- a def that may raise keeps its spec -/
theorem def_okX {x qual : Str} {st : Stmt} {f : Addr} {fd : FuncData} {N ps : List Str} {c : CS} (F : Fun K x qual st f fd) (Z : FnScope N ps (defScope st)) (g : GOk P w K mg base (L2.CX P w) G Φ n)
    (hc : (cks G N n c).b ⟨defScope st, none⟩ (defBody st) = true) (hl : ∀ ws S Q X, Φ n ws S Q X → ws.length = ps.length) (hx : ∀ ws S Q X, Φ n ws S Q X → ∀ e S', X e S' → e.nm = none)
    (h : ∀ ws S Q X, Φ n ws S Q X → wps Φ c (startW N ws) S (dEnds Q X)) (hrp : G.rp = false := by rfl) : FnOk P w K mg base (L2.CX P w) (n + 1) f fd ps (spOf K (Φ n)) := by
  refine F.okX Z (fun vs H Q E q => ?_) (fun cdv A outer s H vs Q E hr q => ?_)
  · obtain ⟨hh, ws, S, Qw, Xw, r, _, q, _⟩ := q
    rw [← r.length]
    exact hl _ _ _ _ q
  · obtain ⟨hh, ws, S, Qw, Xw, r, k, q, kv, kx⟩ := q
    have tk : Takes (cxOf (L2.CX P w) P w K mg base N qual (defScope st) f cdv A outer s H E) (fun cls d _ H => E cls d H) := takes_of rfl rfl rfl rfl
    have o : XOk (L2.CX P w) G Φ n (fun _ => E) ⟨defScope st, none⟩ (cxOf (L2.CX P w) P w K mg base N qual (defScope st) f cdv A outer s H E) :=
      ⟨g, rfl, Z.nd, hr, (fun z => by rw [hrp] at z; cases z), (fun z => by rw [hrp] at z; cases z), rfl, fun _ _ => rfl, fun σ => passAt tk σ, passes_of rfl, fun _ => tk, fun _ _ => ⟨rfl, rfl, rfl⟩⟩
    refine ⟨_, (snds_all c).b o rfl hc, ?_⟩
    refine ⟨hh, startW N ws, S, dEnds Qw Xw, sim_start r k, h _ _ _ _ q, ?_, ?_, ?_, ?_, ?_⟩
    · rintro ρ' S' σ' H' s1 e1 ⟨S2, f2, q2⟩
      exact kv _ _ _ _ (s1.sto.fewer f2) (e1.trans (same_fewer f2)) .non q2
    · rintro w' S' v H' k1 e1 r1 ⟨S2, f2, q2⟩
      exact kv _ _ _ _ (k1.fewer f2) (e1.trans (same_fewer f2)) (r1.mono (same_fewer f2)) q2
    · exact fun _ _ _ _ _ _ z => z.elim
    · exact fun _ _ _ _ _ _ z => z.elim
    · exact fun _ => kx.down (hx _ _ _ _ q)
end
end MP

set_option Elab.async false
set_option linter.all false
set_option maxRecDepth 100000
set_option maxHeartbeats 4000000
/-! MX2: the module's facts where defs may raise; the law's own def over them. -/
namespace MP
open PySem PySem.Spec PyProof.Rows L2
section
variable {P : Program} {w : World} {K : PySem.W.Frag} {mg : Str → Option Value} {base : Heap} {G : Gv} {Φ : Nat → Spec} {n : Nat}
theorem GOk.toX (g : GOk P w K mg base CX0 G Φ 0) : GOk P w K mg base (L2.CX P w) G Φ 0 where
  fns := fun _ _ _ _ h => absurd h (Nat.not_lt_zero _)
  blt := g.blt
  more := g.more
  glb := g.glb
  e0 := fun _ _ _ _ _ _ _ _ _ _ ⟨_, _, _, _, _, _, _, _, _, _, _, _, z⟩ => z.elim
  exc := g.exc
  isx := g.isx
  tcs := g.tcs
  cx := fun _ => rfl
theorem GOk.flags (g : GOk P w K mg base (L2.CX P w) G Φ n) (xr tr : Bool) : GOk P w K mg base (L2.CX P w) { G with xr := xr, tr := tr } Φ n :=
  ⟨g.fns, g.blt, g.more, g.glb, g.e0, g.exc, g.isx, g.tcs, fun _ => rfl⟩
/-- a def that lets nothing out, over defs that may raise, as they need it -/
theorem def_okP {x qual : Str} {st : Stmt} {f : Addr} {fd : FuncData} {N ps : List Str} {c : CS} (F : Fun K x qual st f fd) (Z : FnScope N ps (defScope st)) (g : GOk P w K mg base (L2.CX P w) G Φ n)
    (hc : (cks G N n c).b ⟨defScope st, none⟩ (defBody st) = true) (hl : ∀ ws S Q X, Φ n ws S Q X → ws.length = ps.length)
    (h : ∀ ws S Q X, Φ n ws S Q X → wps Φ c (startW N ws) S (dEnds Q XN)) (hrp : G.rp = false := by rfl) : FnOk P w K mg base (L2.CX P w) (n + 1) f fd ps (spOf K (Φ n)) := by
  refine F.okX Z (fun vs H Q E q => ?_) (fun cdv A outer s H vs Q E hr q => ?_)
  · obtain ⟨hh, ws, S, Qw, Xw, r, _, q, _⟩ := q
    rw [← r.length]
    exact hl _ _ _ _ q
  · obtain ⟨hh, ws, S, Qw, Xw, r, k, q, kv, kx⟩ := q
    have tk : Takes (cxOf (L2.CX P w) P w K mg base N qual (defScope st) f cdv A outer s H E) (fun cls d _ H => E cls d H) := takes_of rfl rfl rfl rfl
    have o : XOk (L2.CX P w) G Φ n (fun _ => E) ⟨defScope st, none⟩ (cxOf (L2.CX P w) P w K mg base N qual (defScope st) f cdv A outer s H E) :=
      ⟨g, rfl, Z.nd, hr, (fun z => by rw [hrp] at z; cases z), (fun z => by rw [hrp] at z; cases z), rfl, fun _ _ => rfl, fun σ => passAt tk σ, passes_of rfl, fun _ => tk, fun _ _ => ⟨rfl, rfl, rfl⟩⟩
    refine ⟨_, (snds_all c).b o rfl hc, ?_⟩
    refine ⟨hh, startW N ws, S, dEnds Qw XN, sim_start r k, h _ _ _ _ q, ?_, ?_, ?_, ?_, ?_⟩
    · rintro ρ' S' σ' H' s1 e1 ⟨S2, f2, q2⟩
      exact kv _ _ _ _ (s1.sto.fewer f2) (e1.trans (same_fewer f2)) .non q2
    · rintro w' S' v H' k1 e1 r1 ⟨S2, f2, q2⟩
      exact kv _ _ _ _ (k1.fewer f2) (e1.trans (same_fewer f2)) (r1.mono (same_fewer f2)) q2
    · exact fun _ _ _ _ _ _ z => z.elim
    · exact fun _ _ _ _ _ _ z => z.elim
    · exact fun _ => fun x S2 H2 d k' e' r z => (dXc_no z).elim
/-- a def that lets nothing out, over defs that may raise -/
theorem def_okL {x qual : Str} {st : Stmt} {f : Addr} {fd : FuncData} {N ps : List Str} {c : CS} (F : Fun K x qual st f fd) (Z : FnScope N ps (defScope st)) (g : GOk P w K mg base (L2.CX P w) G Φ n)
    (hc : (cks G N n c).b ⟨defScope st, none⟩ (defBody st) = true) (hl : ∀ ws S Q X, Φ n ws S Q X → ws.length = ps.length)
    (h : ∀ ws S Q X, Φ n ws S Q X → wps Φ c (startW N ws) S (dEnds Q XN)) (hrp : G.rp = false := by rfl) (hxr : G.xr = false := by rfl) : FnOk P w K mg base CX0 (n + 1) f fd ps (spOf K (Φ n)) := by
  refine F.ok Z (fun vs H Q E q => ?_) (fun cdv A outer s H vs Q E hr q => ?_)
  · obtain ⟨hh, ws, S, Qw, Xw, r, _, q, _⟩ := q
    rw [← r.length]
    exact hl _ _ _ _ q
  · obtain ⟨hh, ws, S, Qw, Xw, r, k, q, kv, _⟩ := q
    have o : XOk (L2.CX P w) G Φ n (fun _ => E0) ⟨defScope st, none⟩ (cxOf CX0 P w K mg base N qual (defScope st) f cdv A outer s H E).nox :=
      ⟨g, rfl, Z.nd, hr, (fun z => by rw [hrp] at z; cases z), (fun z => by rw [hrp] at z; cases z), rfl, fun _ _ => rfl, g.e0 _ rfl rfl, PassesOwn.never, (fun z => by rw [hxr] at z; cases z), fun _ _ => ⟨rfl, rfl, rfl⟩⟩
    refine ⟨_, (snds_all c).b o rfl hc, ?_⟩
    refine ⟨hh, startW N ws, S, dEnds Qw XN, sim_start r k, h _ _ _ _ q, ?_, ?_, ?_, ?_, ?_⟩
    · rintro ρ' S' σ' H' s1 e1 ⟨S2, f2, q2⟩
      exact kv _ _ _ _ (s1.sto.fewer f2) (e1.trans (same_fewer f2)) .non q2
    · rintro w' S' v H' k1 e1 r1 ⟨S2, f2, q2⟩
      exact kv _ _ _ _ (k1.fewer f2) (e1.trans (same_fewer f2)) (r1.mono (same_fewer f2)) q2
    · exact fun _ _ _ _ _ _ z => z.elim
    · exact fun _ _ _ _ _ _ z => z.elim
    · exact fun _ => fun x S2 H2 d k' e' r z => (dXc_no z).elim
end
end MP

set_option Elab.async false
set_option linter.all false
set_option maxRecDepth 100000
set_option maxHeartbeats 4000000
/-! MG: the law's own call, of which it is known that nothing is being shown (no guards). -/
namespace MP
open PySem PySem.Spec PyProof.Rows L2

/-- a def's run where it is called, its body being read there -/
theorem fn_run {CX : CXT} {P : Program} {w : World} {K : PySem.W.Frag} {mg : Str → Option Value} {base : Heap} {k : Nat} {f : Addr} {nm qual : Str} {params : Arguments} {body : List Stmt} {sc : Scope} {dV kV doc pm cdv ct oc : Value} {an od : Option Addr}
    {osl : Array (Option Value)} {N ps : List Str} {A : Around} {outer : List PySem.Env} {s : Shared} {H : Hp} {args : Args} {us : List Value} {vs : List V} {Q : VK} {E : XK} {t : TS}
    (found : K.lookup f = some ⟨oc, od, .func (PySem.W.fnOf nm qual params body sc dV kV doc pm an cdv ct), osl⟩) (code : PySem.W.codeIn K cdv qual = true) (Z : FnScope N ps sc) (room : Room (k + 1) A) (e0 : Env0 P w K mg base A outer s H)
    (bind : BindsTo s (PySem.W.fnOf nm qual params body sc dV kV doc pm an cdv ct) args (ps.zip us)) (rv : Vals vs us) (hl : vs.length = ps.length)
    (read : PSs (cxOf CX P w K mg base N qual sc f cdv A outer s H E) body t) (asked : t { nx := fun _ H' => Q .non H', rt := Q } (start N vs) H) :
    codeAny (model P w) A (.call (.ref f) args) (CR CX outer P w H s Q E) s := by
  have inK : K.In s.heap := e0.mod.kin.keeps fun b o z => (e0.bs b o z).1
  have lim : s.heap.NoLimit := e0.mod.nolimit.keeps fun b o z => (e0.bs b o z).1
  have kinds : ∀ y ∈ ps.zip us, sc.names.lookup y.1 = some .local ∨ (sc.names.lookup y.1 = some .cell ∧ ((cellsFrom (s.heap.objs.size + 1) sc.names []).lookup y.1).isSome = true) := by
    rintro ⟨n, v⟩ hy
    rcases Z.par n (List.of_mem_zip hy).1 with c | c
    · exact .inl c
    · exact .inr ⟨c, PySem.W.cellsFrom_some _ _ _ (.inl c)⟩
  refine codeAny_call_function room.depth (inK _ _ found) rfl Z.co Z.gen rfl (PySem.W.codeRec_of inK code) (bind _ _ _ _ ?_)
  refine wpAny_newFunctionEnv_cells Z.kind kinds fun env he s1 x => ?_
  subst he
  refine ⟨lim.keeps x.toInCall.keep, codeAny_func ?_⟩
  have I := inv_start (CX := CX) (E := E) Z room.hd e0 hl rv x
  refine wpAny_mono (read.run [] s1 (start N vs) H _ I asked) (fun fl s' hs => ?_) fun _ _ z => z
  cases fl with
  | ret u =>
    obtain ⟨v, σ', H', J, r2, q⟩ := hs
    exact ⟨v, H', J.os, J.bare, J.base, J.hok, r2, q⟩
  | next =>
    obtain ⟨σ', H', J, q⟩ := hs
    exact ⟨V.non, H', J.os, J.bare, J.base, J.hok, rfl, q⟩
  | brk => obtain ⟨_, _, _, q⟩ := hs; exact q.elim
  | cont => obtain ⟨_, _, _, q⟩ := hs; exact q.elim
/-- the law's call, by its run there -/
theorem law_at {P : Program} {w : World} {K : PySem.W.Frag} {mg mb : Str → Option Value} {CX : CXT} {fa a : Addr} {s1 : Shared} {vs : List Value} {ns : List Int}
    (inK : K.In s1.heap) (main : s1.heap.Ns mainGlobals mg) (blt : s1.heap.Ns builtinsNs mb) (bltAll : ∀ x : Str, x ≠ "__name__" → mb x = bootBuiltins x) (lim : s1.heap.NoLimit) (noGens : s1.gens = #[])
    (there : s1.heap.get? a = some { cls := .type "list", data := .seq vs.toArray }) (isI : IntsAre vs ns) (short : ns.length ≤ sizeLine)
    (F : ∀ (base : Heap) (H : Hp), K.In base → base.Ns mainGlobals mg → Env0 P w K mg base callerA [] s1 H → Only H → SqL K H a (ns.map V.int) →
      codeAny (model P w) callerA (.call (.ref fa) ⟨[.ref a], []⟩) (CR CX [] P w H s1 (fun v _ => v = .bl true) fun _ _ _ => False) s1)
    (noX : ∀ H e s', CX [] H s1 (fun _ _ _ => False) e s' → False) :
    codeAny (model P w) callerA (.call (.ref fa) ⟨[.ref a], []⟩) (fun r s' => r = .ok (.ret (.bool true)) ∧ OldK s1.heap s'.heap ∧ s'.os = s1.os ∧ AllBare s'.gens) s1 := by
  have vals := vals_ints isI
  have vlen := isI.length
  have go : ∀ H : Hp, Only H → SqL K H a (ns.map V.int) → HOk P w H s1.heap → (∀ b, H b ≠ none → b = a) → (H a ≠ none → K.lookup a = none) →
      codeAny (model P w) callerA (.call (.ref fa) ⟨[.ref a], []⟩) (fun r s' => r = .ok (.ret (.bool true)) ∧ OldK s1.heap s'.heap ∧ s'.os = s1.os ∧ AllBare s'.gens) s1 := by
    intro H only sq ok alone notK
    have free : ∀ {b : Addr}, b ≠ a → H b = none := fun {b} ne => by
      cases z : H b with
      | none => rfl
      | some u => exact absurd (alone b (by rw [z]; simp)) ne
    have noDict : ∀ {b : Addr} {o : Obj} {es : Array DictEntry} {ep : Nat}, s1.heap.get? b = some o → o.data = .dict es ep → H b = none := fun {b o es ep} e d => by
      by_cases ne : b = a
      · subst ne
        rw [there] at e
        cases e
        have : Data.seq vs.toArray _ = Data.dict es ep := d
        cases this
      · exact free ne
    have nsB : ∀ {b : Addr} {m : Str → Option Value}, s1.heap.Ns b m → (hidT s1.heap H).Ns b m := fun {b m} ⟨o, es, ep, e, d, r⟩ => ⟨o, es, ep, hidT_get e (noDict e d), d, r⟩
    have inB : K.In (hidT s1.heap H) := fun b o e => by
      refine hidT_get (inK b o e) ?_
      by_cases ne : b = a
      · subst ne
        cases z : H b with
        | none => rfl
        | some u => rw [notK (by rw [z]; simp)] at e; cases e
      · exact free ne
    have mod : Mod K mg (hidT s1.heap H) := ⟨inB, nsB main, ⟨mb, nsB blt, bltAll⟩, let ⟨mc, m1, m2⟩ := lim; ⟨mc, nsB m1, m2⟩⟩
    have env : Env0 P w K mg (hidT s1.heap H) callerA [] s1 H := ⟨rfl, mod, fun b o z => of_hidT z, Nat.le_of_eq (hidT_size _ _), trivial, fun b hb => (by cases hb), ok, .of_eq noGens⟩
    refine codeAny_mono (F _ H inB (nsB main) env only sq) fun r s' back => ?_
    cases r with
    | error e => exact (noX H e s' back).elim
    | ok fl =>
      cases fl with
      | next => exact back.elim
      | brk => exact back.elim
      | cont => exact back.elim
      | ret u =>
        obtain ⟨v, H', os, bare, un, ok2, rel, hv⟩ := back
        have hv' : v = .bl true := hv
        subst hv'
        obtain rfl : u = Value.bool true := rel
        refine ⟨rfl, OldK.of_keep fun b o z => ?_, os, bare⟩
        by_cases hb : H b = none
        · exact un.keep b o z hb (fun y => by cases y) (fun y => by cases y)
        · rcases only b with y | ⟨ob, xs, y⟩
          · exact absurd y hb
          · obtain ⟨g1, _⟩ := ok b _ y
            obtain ⟨g2, _⟩ := ok2 b _ (un.frzs b ob _ y)
            rw [z] at g1
            cases g1
            exact g2
  cases hk : K.lookup a with
  | some o =>
    have z := inK a o hk
    rw [there] at z
    cases z
    exact go (fun _ => none) (fun _ => .inl rfl) (.inr ⟨_, vs.toArray, _, hk, rfl, rfl, rfl, by rw [List.size_toArray, vlen]; exact short, by simpa using vals⟩) (fun b u y => (by cases y)) (fun b y => absurd rfl y) fun y => absurd rfl y
  | none =>
    refine go (fun b => if b = a then some (.frz { cls := .type "list", data := .seq vs.toArray } (.lst (ns.map V.int))) else none) (fun b => ?_) (.inl (.inr ⟨{ cls := .type "list", data := .seq vs.toArray }, if_pos rfl⟩)) (fun b u y => ?_) (fun b y => ?_) fun _ => hk
    · by_cases hb : b = a
      · exact .inr ⟨_, _, if_pos hb⟩
      · exact .inl (if_neg hb)
    · by_cases hb : b = a
      · have y' := (if_pos hb).symm.trans y
        cases y'
        subst hb
        exact ⟨there, by rw [List.length_map]; exact short, vs, _, vals, there⟩
      · have y' := (if_neg hb).symm.trans y
        cases y'
    · by_cases hb : b = a
      · exact hb
      · exact absurd (if_neg hb) y
section
variable {P : Program} {w : World} {K : PySem.W.Frag} {mg : Str → Option Value} {base : Heap} {G : Gv} {Φ : Nat → Spec} {n : Nat}
/-- the law's def run where nothing is being shown -/
theorem def_runG {x qual : Str} {st : Stmt} {f : Addr} {fd : FuncData} {N ps : List Str} {c : CS} (F : Fun K x qual st f fd) (Z : FnScope N ps (defScope st)) (g : GOk P w K mg base CX0 G Φ n) (rep : mg "repr" = none)
    (hc : (cks G N n c).b ⟨defScope st, none⟩ (defBody st) = true) (hl : ∀ ws S Q X, Φ n ws S Q X → ws.length = ps.length) (h : ∀ ws S Q X, Φ n ws S Q X → wps Φ c (startW N ws) S (dEnds Q XN))
    {A : Around} {outer : List PySem.Env} {s : Shared} {H : Hp} {args : Args} {us : List Value} {vs : List V} {Q : VK} {E : XK} (quiet : A.guards = some []) (room : Room (n + 1) A) (e0 : Env0 P w K mg base A outer s H) (bind : BindsTo s fd args (ps.zip us)) (rv : Vals vs us) (q : spOf K (Φ n) vs H Q E) (hxr : G.xr = false := by rfl) :
    codeAny (model P w) A (.call (.ref f) args) (CR CX0 outer P w H s Q E) s := by
  obtain ⟨oc, od, kV, doc, pm, an, cdv, ct, osl, rfl, lk, hcd⟩ := F.ex
  obtain ⟨hh, ws, S, Qw, Xw, r, k, q, kv, _⟩ := q
  have o : XOk CX0 G Φ n (fun _ => E0) ⟨defScope st, none⟩ (cxOf CX0 P w K mg base N qual (defScope st) f cdv A outer s H E).nox :=
    ⟨g, rfl, Z.nd, room.deeper _, fun _ => quiet, fun _ => rep, rfl, fun _ _ => rfl, fun _ _ _ _ _ _ _ z => z.elim, PassesOwn.never, (fun z => by rw [hxr] at z; cases z), fun _ _ => ⟨rfl, rfl, rfl⟩⟩
  refine fn_run lk hcd Z room e0 bind rv (by rw [← r.length]; exact hl _ _ _ _ q) (((snds_all c).b o rfl hc).nox) ?_
  refine ⟨hh, startW N ws, S, dEnds Qw XN, sim_start r k, h _ _ _ _ q, ?_, ?_, ?_, ?_, ?_⟩
  · rintro ρ' S' σ' H' s1 e1 ⟨S2, f2, q2⟩
    exact kv _ _ _ _ (s1.sto.fewer f2) (e1.trans (same_fewer f2)) .non q2
  · rintro w' S' v H' k1 e1 r1 ⟨S2, f2, q2⟩
    exact kv _ _ _ _ (k1.fewer f2) (e1.trans (same_fewer f2)) (r1.mono (same_fewer f2)) q2
  · exact fun _ _ _ _ _ _ z => z.elim
  · exact fun _ _ _ _ _ _ z => z.elim
  · exact fun _ => fun x S2 H2 d k' e' r z => (dXc_no z).elim
end
/-- what the law's def has to keep, at its call -/
def RunsG (l : PySem.W.OpenLaw) (w : World) (K : PySem.W.Frag) (mg : Str → Option Value) (x : Str) (fa : Addr) (sp : Spec) : Prop :=
  ∀ (base : Heap) (s : Shared) (H : Hp) (u : Value) (v : V) (Q : VK) (E : XK), K.In base → base.Ns mainGlobals mg → Env0 l.prog w K mg base callerA [] s H → RelV v u → spOf K sp [v] H Q E → codeAny (model l.prog w) callerA (.call (.ref fa) ⟨[u], []⟩) (CR CX0 [] l.prog w H s Q E) s
theorem walk_ofG {l : PySem.W.OpenLaw} {n : Nat} {q : Program} {loose : List Str} {XP : (Str → Option Value) → Heap → Prop} {YP : World → Heap → Prop} {d : DefRec} {K : Params → PySem.W.Frag} {x : Str} {sp : Spec}
    (hn : l.most = some n) (hn2 : n ≤ sizeLine) (hdf : d.params.defaults = []) (hY : ∀ (w : World) (h : Heap), YP w h → (K w.params).In h) (hs : sp = lawSpec n)
    (F : ∀ (w : World) (mg : Str → Option Value) (fa : Addr) (h : Heap), (K w.params).In h → h.Ns mainGlobals mg → mg d.name = some (.ref fa) → RunsG l w (K w.params) mg x fa sp) :
    PySem.W.WalkO q loose XP YP l.row.toRowW d [] (fun f vs => PySem.call f vs) := by
  refine Att.attach_call hn hdf fun w sA s1 mg mb fa ob pm cd doc a vs ns G Y ho hd hcd hmg hobj hints hlen hgens => ?_
  have inK := hY w _ Y
  refine law_at (CX := CX0) inK G.T.g G.T.b G.T.builtins G.T.nolimit hgens hobj hints (Nat.le_trans hlen hn2) (fun base H b1 b2 env _ sq => ?_) fun _ _ _ z => z
  refine F w mg fa _ inK G.T.g hmg base s1 H (.ref a) (.ref a) _ _ b1 b2 env rfl ?_
  subst hs
  refine ⟨fun _ => false, [.lst (ns.map W.int)], S00, fun y _ => y = .bl true, XN, .cons ?_ .nil, stoOk0, ⟨ns, rfl, hlen, rfl, rfl⟩, ?_, XCk.no⟩
  · rcases sq with z | ⟨o, its, m, hk, hc, hdd, hda, hz, hv⟩
    · exact .lst rfl z (rep_ints ns)
    · have e := inK _ _ hk
      rw [hobj] at e
      cases e
      cases hda
      exact .klst ⟨_, _, hk, hz, hv⟩ (rep_ints ns)
  · rintro y S' v H' _ _ r rfl
    cases r
    rfl
end MP

set_option Elab.async false
set_option linter.all false
set_option maxRecDepth 100000
set_option maxHeartbeats 4000000
/-! MP14: short steps through a core's demand. -/
namespace MP
open PySem PySem.Spec PyProof.Rows L2

section
variable {Φ : Nat → Spec} {ρ : Env} {S : Sto} {D : WEnds} {Q : WK} {X : XC} {a b c e t it : CE} {s r : CS} {live : Bool}
/-! ### statements -/
section
variable {nx bk ct : Env → Sto → Prop} {rt : WK} {xc : XC}
theorem s_nil (h : nx ρ S) : wps Φ .nil ρ S ⟨nx, rt, bk, ct, xc⟩ := h
theorem s_seq (h : wps Φ s ρ S ⟨fun ρ1 S1 => wps Φ r ρ1 S1 ⟨nx, rt, bk, ct, xc⟩, rt, bk, ct, xc⟩) : wps Φ (.seq s r) ρ S ⟨nx, rt, bk, ct, xc⟩ := h
theorem s_asg (h : (wp Φ e).e ρ S (fun w S1 => (wp Φ t).g w ρ S1 nx) xc) : wps Φ (.asg t e) ρ S ⟨nx, rt, bk, ct, xc⟩ := h
theorem s_par {is : List Nat} (h : (wp Φ e).es ρ S (fun ws S1 => ws.length = is.length ∧ nx (setAll ρ is ws) S1) xc) : wps Φ (.par is e) ρ S ⟨nx, rt, bk, ct, xc⟩ := h
theorem s_aug' {i : Nat} {sb : Bool} {x : W} (h0 : ρ[i]? = some (some x)) (h : (wp Φ e).e ρ S (fun y S1 => ∃ a b, x = .int a ∧ y = .int b ∧ nx (ρ.set i (some (.int (augI sb a b)))) S1) xc) : wps Φ (.aug i sb e) ρ S ⟨nx, rt, bk, ct, xc⟩ := ⟨x, h0, h⟩
theorem s_augS {sb : Bool} (h : (wp Φ a).e ρ S (fun x S1 => (wp Φ b).e ρ S1 (fun k S2 => (∃ a, x = .ref a) ∧ idxW x k S2 fun v S3 => (wp Φ e).e ρ S3 (fun y S4 =>
      ∃ a b, v = .int a ∧ y = .int b ∧ setW x k (.int (augI sb a b)) S4 fun S6 => nx ρ S6) xc) xc) xc) : wps Φ (.augS a b sb e) ρ S ⟨nx, rt, bk, ct, xc⟩ := h
theorem s_expr (h : (wp Φ e).e ρ S (fun _ S1 => nx ρ S1) xc) : wps Φ (.expr e) ρ S ⟨nx, rt, bk, ct, xc⟩ := h
theorem s_ret (h : (wp Φ e).e ρ S rt xc) : wps Φ (.ret e) ρ S ⟨nx, rt, bk, ct, xc⟩ := h
theorem s_retN (h : rt .non S) : wps Φ .retN ρ S ⟨nx, rt, bk, ct, xc⟩ := h
theorem s_iff (h : (wp Φ t).t ρ S (fun q S1 => if q = true then wps Φ s ρ S1 ⟨nx, rt, bk, ct, xc⟩ else wps Φ r ρ S1 ⟨nx, rt, bk, ct, xc⟩) xc) : wps Φ (.iff t s r) ρ S ⟨nx, rt, bk, ct, xc⟩ := h
theorem s_fr (h : (wp Φ it).i ρ S (fun src items S1 => wpFor src (wp Φ t).g (wps Φ s) items ρ S1 ⟨nx, rt, bk, ct, xc⟩) xc) : wps Φ (.fr t it s) ρ S ⟨nx, rt, bk, ct, xc⟩ := h
theorem s_cont (h : ct ρ S) : wps Φ .cont ρ S ⟨nx, rt, bk, ct, xc⟩ := h
theorem s_brk (h : bk ρ S) : wps Φ .brk ρ S ⟨nx, rt, bk, ct, xc⟩ := h
theorem s_pass (h : nx ρ S) : wps Φ .pass ρ S ⟨nx, rt, bk, ct, xc⟩ := h
theorem s_gfrz {i : Nat} {p : Addr} {ws : List W} (h0 : ρ[i]? = some (some (.ref p))) (h1 : S p = some (.lst ws)) (h : nx (ρ.set i (some (.lst ws))) (sdel S p)) : wps Φ (.gfrz i) ρ S ⟨nx, rt, bk, ct, xc⟩ := ⟨p, ws, h0, h1, h⟩
theorem s_whl (I : Nat → Env → Sto → Prop) (m : Nat) (h0 : I m ρ S) (h : ∀ m ρ S, I m ρ S → (wp Φ t).t ρ S (fun q S1 =>
      if q = true then wps Φ s ρ S1 ⟨fun ρ2 S2 => ∃ m', m' < m ∧ I m' ρ2 S2, rt, nx, fun ρ2 S2 => ∃ m', m' < m ∧ I m' ρ2 S2, xc⟩ else nx ρ S1) xc) : wps Φ (.whl t s) ρ S ⟨nx, rt, bk, ct, xc⟩ := ⟨I, ⟨m, h0⟩, h⟩
theorem s_drop {S' : Sto} (f : Fewer S' S) (h : nx ρ S') : wps Φ .gdrop ρ S ⟨nx, rt, bk, ct, xc⟩ := ⟨S', f, h⟩
end
/-- the end of a def -/
theorem d_in (h : wps Φ s ρ S ⟨dNx Q, dRt Q, dNo, dNo, dXc X⟩) : wps Φ s ρ S (dEnds Q X) := h
theorem fewer_rfl {S : Sto} : Fewer S S := fun _ _ h => h
theorem d_ret {w : W} {S0 : Sto} (f : Fewer S0 S) (h : Q w S0) : dRt Q w S := ⟨S0, f, h⟩
theorem d_same {w : W} (h : Q w S) : dRt Q w S := ⟨S, fewer_rfl, h⟩
theorem d_nx {S0 : Sto} (f : Fewer S0 S) (h : Q .non S0) : dNx Q ρ S := ⟨S0, f, h⟩
theorem d_end (h : Q .non S) : dNx Q ρ S := ⟨S, fewer_rfl, h⟩

/-! ### expressions -/
theorem e_var {i : Nat} {w : W} (h : ρ[i]? = some (some w)) (q : Q w S) : (wp Φ (.var i)).e ρ S Q X := ⟨w, h, q⟩
theorem e_int {i : Int} (q : Q (.int i) S) : (wp Φ (.cst (.int i))).e ρ S Q X := ⟨_, rfl, q⟩
theorem e_str {x : Str} (q : Q (.str x) S) : (wp Φ (.cst (.str x))).e ρ S Q X := ⟨_, rfl, q⟩
theorem e_bool {x : Bool} (q : Q (.bl x) S) : (wp Φ (.cst (.bool x))).e ρ S Q X := ⟨_, rfl, q⟩
theorem e_none (q : Q .non S) : (wp Φ (.cst .none)).e ρ S Q X := ⟨_, rfl, q⟩
theorem e_bin {op : Bop} (h : (wp Φ a).e ρ S (fun x S1 => (wp Φ b).e ρ S1 (fun y S2 => bopW live op x y S2 Q) X) X) : (wp Φ (.bin live op a b)).e ρ S Q X := h
theorem e_neg (h : (wp Φ a).e ρ S (fun x S1 => ∃ i, x = .int i ∧ Q (.int (-i)) S1) X) : (wp Φ (.neg a)).e ρ S Q X := h
theorem e_nt (h : (wp Φ a).e ρ S (fun x S1 => ∃ b, truW S1 x = some b ∧ Q (.bl !b) S1) X) : (wp Φ (.nt a)).e ρ S Q X := h
theorem e_cmp {op : CmpOp} (h : (wp Φ a).e ρ S (fun x S1 => (wp Φ b).e ρ S1 (fun y S2 => cmpW op x y S2 fun r => Q (.bl r) S2) X) X) : (wp Φ (.cmp op a b)).e ρ S Q X := h
theorem e_chain {o1 o2 : CmpOp} (h : (wp Φ a).e ρ S (fun x S1 => (wp Φ b).e ρ S1 (fun y S2 => cmpW o1 x y S2 fun r =>
        if r = true then (wp Φ c).e ρ S2 (fun z S3 => cmpW o2 y z S3 fun r2 => Q (.bl r2) S3) X else Q (.bl false) S2) X) X) : (wp Φ (.chain o1 o2 a b c)).e ρ S Q X := h
theorem e_an (h : (wp Φ a).an ρ S Q X) : (wp Φ (.an a)).e ρ S Q X := h
theorem e_or (h : (wp Φ a).or ρ S Q X) : (wp Φ (.or a)).e ρ S Q X := h
theorem an_1 (h : (wp Φ a).e ρ S Q X) : (wp Φ (.cons a .nil)).an ρ S Q X := h
theorem an_2 (h : (wp Φ a).e ρ S (fun x S1 => ∃ b', truW S1 x = some b' ∧ if b' = true then (wp Φ (.cons b c)).an ρ S1 Q X else Q x S1) X) : (wp Φ (.cons a (.cons b c))).an ρ S Q X := h
theorem or_1 (h : (wp Φ a).e ρ S Q X) : (wp Φ (.cons a .nil)).or ρ S Q X := h
theorem or_2 (h : (wp Φ a).e ρ S (fun x S1 => ∃ b', truW S1 x = some b' ∧ if b' = true then Q x S1 else (wp Φ (.cons b c)).or ρ S1 Q X) X) : (wp Φ (.cons a (.cons b c))).or ρ S Q X := h
theorem e_ife (h : (wp Φ t).t ρ S (fun r S1 => if r = true then (wp Φ a).e ρ S1 Q X else (wp Φ b).e ρ S1 Q X) X) : (wp Φ (.ife t a b)).e ρ S Q X := h
theorem e_call {f : Nat} (h : (wp Φ a).es ρ S (fun ws S1 => Φ f ws S1 Q X) X) : (wp Φ (.call f a)).e ρ S Q X := h
theorem e_blt {o : Blt} (h : (wp Φ a).es ρ S (fun ws S1 => bltW live o ws S1 Q) X) : (wp Φ (.blt o live a)).e ρ S Q X := h
theorem e_mth {m : Mth} (h : (wp Φ a).e ρ S (fun x S1 => rcvW m x S1 ∧ (wp Φ b).es ρ S1 (fun ws S2 => mthW m x ws S2 Q) X) X) : (wp Φ (.mth m a b)).e ρ S Q X := h
theorem e_idx (h : (wp Φ a).e ρ S (fun x S1 => (wp Φ b).e ρ S1 (fun y S2 => idxW x y S2 Q) X) X) : (wp Φ (.idx a b)).e ρ S Q X := h
theorem e_slc {lo hi : CE} (h : (wp Φ a).e ρ S (fun x S1 => (wp Φ lo).o ρ S1 (fun l S2 => (wp Φ hi).o ρ S2 (fun u S3 => slcW live x l u S3 Q) X) X) X) : (wp Φ (.slc live a lo hi)).e ρ S Q X := h
theorem e_rev (h : (wp Φ a).e ρ S (fun x S1 => ∃ ws, rdL S1 x = some ws ∧ mkL live ws.reverse S1 Q) X) : (wp Φ (.rev live a)).e ρ S Q X := h
theorem e_tup (h : (wp Φ a).es ρ S (fun ws S1 => ws.length ≤ sizeLine ∧ Q (.tup ws) S1) X) : (wp Φ (.tup a)).e ρ S Q X := h
theorem e_lst (h : (wp Φ a).es ρ S (fun ws S1 => ws.length ≤ sizeLine ∧ mkL live ws S1 Q) X) : (wp Φ (.lst live a)).e ρ S Q X := h
theorem e_dnew {tk : Bool} (h : ∀ p, S p = none → Q (.ref p) (sup S p (if tk = true then .dt [] else .dk []))) : (wp Φ (.dnew tk)).e ρ S Q X := h
theorem e_dct (h : (wp Φ a).es ρ S (fun ws S1 => ∃ kvs, putsK [] ws = some kvs ∧ ws.length ≤ 30 ∧ ∀ p, S1 p = none → Q (.ref p) (sup S1 p (.dk kvs))) X) : (wp Φ (.dct a)).e ρ S Q X := h
theorem e_lc {own : List (Str × Nat)} (h : (wp Φ it).i ρ S (fun src items S1 =>
      wpLc src (wp Φ t).g (wp Φ c).c (fun ρ1 S2 Q1 => (wp Φ e).e ρ1 S2 Q1 XN) (wipeW ρ (own.map (·.2))) items [] S1 fun ws S2 => mkL live ws S2 Q) X) : (wp Φ (.lc live own t it c e)).e ρ S Q X := h
theorem e_lrg (h : (wp Φ a).e ρ S (fun x S1 => ∃ j, x = .int j ∧ 0 ≤ j ∧ j ≤ 16777216 ∧ mkL live (rngW 0 j.toNat) S1 Q) X) : (wp Φ (.lrg live a)).e ρ S Q X := h
theorem e_isi {k : Knd} (h : (wp Φ a).e ρ S (fun x S1 => ∃ k', kndW S1 x = some k' ∧ Q (.bl (subK k' k)) S1) X) : (wp Φ (.isi a k)).e ρ S Q X := h
section
variable {Q : List W → Sto → Prop}
theorem es_n (h : Q [] S) : (wp Φ .nil).es ρ S Q X := h
theorem es_c (h : (wp Φ a).e ρ S (fun w S1 => (wp Φ b).es ρ S1 (fun ws S2 => Q (w :: ws) S2) X) X) : (wp Φ (.cons a b)).es ρ S Q X := h
end
section
variable {Q : Option Int → Sto → Prop}
theorem o_nil (h : Q none S) : (wp Φ .nil).o ρ S Q X := h
theorem o_var {i : Nat} (h : (wp Φ (.var i)).e ρ S (intK Q) X) : (wp Φ (.var i)).o ρ S Q X := h
theorem o_cst {k : Const} (h : (wp Φ (.cst k)).e ρ S (intK Q) X) : (wp Φ (.cst k)).o ρ S Q X := h
theorem o_bin {op : Bop} (h : (wp Φ (.bin live op a b)).e ρ S (intK Q) X) : (wp Φ (.bin live op a b)).o ρ S Q X := h
theorem o_neg (h : (wp Φ (.neg a)).e ρ S (intK Q) X) : (wp Φ (.neg a)).o ρ S Q X := h
theorem o_blt {o : Blt} (h : (wp Φ (.blt o live a)).e ρ S (intK Q) X) : (wp Φ (.blt o live a)).o ρ S Q X := h
theorem o_call {f : Nat} (h : (wp Φ (.call f a)).e ρ S (intK Q) X) : (wp Φ (.call f a)).o ρ S Q X := h
theorem ik {i : Int} (h : Q (some i) S) : intK Q (.int i) S := ⟨i, rfl, h⟩
end
/-! ### tests -/
section
variable {Q : Bool → Sto → Prop}
theorem t_var {i : Nat} (h : (wp Φ (.var i)).e ρ S (truK Q) X) : (wp Φ (.var i)).t ρ S Q X := h
theorem t_call {f : Nat} (h : (wp Φ (.call f a)).e ρ S (truK Q) X) : (wp Φ (.call f a)).t ρ S Q X := h
theorem t_blt {o : Blt} (h : (wp Φ (.blt o live a)).e ρ S (truK Q) X) : (wp Φ (.blt o live a)).t ρ S Q X := h
theorem t_mth {m : Mth} (h : (wp Φ (.mth m a b)).e ρ S (truK Q) X) : (wp Φ (.mth m a b)).t ρ S Q X := h
theorem t_idx (h : (wp Φ (.idx a b)).e ρ S (truK Q) X) : (wp Φ (.idx a b)).t ρ S Q X := h
theorem t_isi {k : Knd} (h : (wp Φ (.isi a k)).e ρ S (truK Q) X) : (wp Φ (.isi a k)).t ρ S Q X := h
theorem t_cst {k : Const} (h : (wp Φ (.cst k)).e ρ S (truK Q) X) : (wp Φ (.cst k)).t ρ S Q X := h
theorem t_nt (h : (wp Φ a).t ρ S (fun b S1 => Q (!b) S1) X) : (wp Φ (.nt a)).t ρ S Q X := h
theorem t_cmp {op : CmpOp} (h : (wp Φ a).e ρ S (fun x S1 => (wp Φ b).e ρ S1 (fun y S2 => cmpW op x y S2 fun r => Q r S2) X) X) : (wp Φ (.cmp op a b)).t ρ S Q X := h
theorem t_chain {o1 o2 : CmpOp} (h : (wp Φ a).e ρ S (fun x S1 => (wp Φ b).e ρ S1 (fun y S2 => cmpW o1 x y S2 fun r =>
        if r = true then (wp Φ c).e ρ S2 (fun z S3 => cmpW o2 y z S3 fun r2 => Q r2 S3) X else Q false S2) X) X) : (wp Φ (.chain o1 o2 a b c)).t ρ S Q X := h
theorem t_an (h : (wp Φ a).ant ρ S Q X) : (wp Φ (.an a)).t ρ S Q X := h
theorem t_or (h : (wp Φ a).ort ρ S Q X) : (wp Φ (.or a)).t ρ S Q X := h
theorem ant_1 (h : (wp Φ a).t ρ S Q X) : (wp Φ (.cons a .nil)).ant ρ S Q X := h
theorem ant_2 (h : (wp Φ a).t ρ S (fun b' S1 => if b' = true then (wp Φ (.cons b c)).ant ρ S1 Q X else Q false S1) X) : (wp Φ (.cons a (.cons b c))).ant ρ S Q X := h
theorem ort_1 (h : (wp Φ a).t ρ S Q X) : (wp Φ (.cons a .nil)).ort ρ S Q X := h
theorem ort_2 (h : (wp Φ a).t ρ S (fun b' S1 => if b' = true then Q true S1 else (wp Φ (.cons b c)).ort ρ S1 Q X) X) : (wp Φ (.cons a (.cons b c))).ort ρ S Q X := h
theorem tr_bl {x : Bool} (h : Q x S) : truK Q (.bl x) S := ⟨x, rfl, h⟩
theorem tr_int {x : Int} (h : Q (x != 0) S) : truK Q (.int x) S := ⟨_, rfl, h⟩
theorem tr_lst {x : List W} (h : Q (!x.isEmpty) S) : truK Q (.lst x) S := ⟨_, rfl, h⟩
theorem tr_non (h : Q false S) : truK Q .non S := ⟨_, rfl, h⟩
theorem c_nil (h : Q true S) : (wp Φ .nil).c ρ S Q := h
theorem c_one (h : (wp Φ a).t ρ S Q XN) : (wp Φ (.cons a .nil)).c ρ S Q := h
end
/-! ### targets, walks -/
section
variable {Q : Env → Sto → Prop}
theorem g_tnm {i : Nat} {w : W} (h : Q (ρ.set i (some w)) S) : (wp Φ (.tnm i)).g w ρ S Q := h
theorem g_tup {ws : List W} (hl : ws.length = cntC t) (h : (wp Φ t).gs ws ρ S Q) : (wp Φ (.ttup t)).g (.tup ws) ρ S Q := ⟨ws, rfl, hl, h⟩
theorem g_sub {w : W} (h : (wp Φ a).e ρ S (fun x S1 => (wp Φ b).e ρ S1 (fun k S2 => setW x k w S2 fun S3 => Q ρ S3) XN) XN) : (wp Φ (.tsub a b)).g w ρ S Q := h
theorem gs_n (h : Q ρ S) : (wp Φ .nil).gs [] ρ S Q := ⟨rfl, h⟩
theorem gs_c {w : W} {ws : List W} (h : (wp Φ a).g w ρ S fun ρ1 S1 => (wp Φ b).gs ws ρ1 S1 Q) : (wp Φ (.cons a b)).gs (w :: ws) ρ S Q := ⟨w, ws, rfl, h⟩
end
section
variable {Q : (Sto → Prop) → List W → Sto → Prop}
theorem i_seq (h : (wp Φ a).e ρ S (fun x S1 => ∃ ws, rdI S1 x = some ws ∧ Q (srcW x ws) ws S1) X) : (wp Φ (.iseq a)).i ρ S Q X := h
theorem i_rng1 (h : (wp Φ a).e ρ S (fun x S1 => irngW [x] S1 Q) X) : (wp Φ (.irng1 a)).i ρ S Q X := h
theorem i_rng2 (h : (wp Φ a).e ρ S (fun x S1 => (wp Φ b).e ρ S1 (fun y S2 => irngW [x, y] S2 Q) X) X) : (wp Φ (.irng2 a b)).i ρ S Q X := h
theorem i_rng3 (h : (wp Φ a).e ρ S (fun x S1 => (wp Φ b).e ρ S1 (fun y S2 => (wp Φ c).e ρ S2 (fun z S3 => irng3W [x, y, z] S3 Q) X) X) X) : (wp Φ (.irng3 a b c)).i ρ S Q X := h
theorem i_zip (h : (wp Φ a).e ρ S (fun x S1 => (wp Φ b).e ρ S1 (fun y S2 => ∃ xs ys, rdL S2 x = some xs ∧ rdL S2 y = some ys ∧
        Q (fun S => rdL S x = some xs ∧ rdL S y = some ys) (zipW xs ys) S2) X) X) : (wp Φ (.izip a b)).i ρ S Q X := h
theorem i_enm (h : (wp Φ a).e ρ S (fun x S1 => ∃ xs, rdL S1 x = some xs ∧ Q (fun S => rdL S x = some xs) (enmW 0 xs) S1) X) : (wp Φ (.ienm a)).i ρ S Q X := h
theorem rg1 {n : Int} (h1 : -(2 ^ 62) ≤ n ∧ n < 2 ^ 62) (h : Q (fun _ => True) (rngW 0 n.toNat) S) : irngW [.int n] S Q := ⟨h1.1, h1.2, h⟩
theorem rg3 {i j k : Int} {n : Nat} (h1 : RgC i j k n) (h : Q (fun _ => True) ((List.range n).map fun (m : Nat) => W.int (i + m * k)) S) : irng3W [.int i, .int j, .int k] S Q := ⟨n, h1, h⟩
theorem rg2 {n m : Int} (h1 : -(2 ^ 62) ≤ n ∧ n < 2 ^ 62 ∧ -(2 ^ 62) ≤ m ∧ m < 2 ^ 62) (h : Q (fun _ => True) (rngW n (m - n).toNat) S) : irngW [.int n, .int m] S Q := ⟨h1, h⟩
end
/-! ### values -/
section
variable {i j : Int} {xs ys : List W}
theorem b_add (h : Q (.int (i + j)) S) : bopW live .add (.int i) (.int j) S Q := h
theorem b_sub (h : Q (.int (i - j)) S) : bopW live .sub (.int i) (.int j) S Q := h
theorem b_mul (h0 : CMulW i j) (h : Q (.int (i * j)) S) : bopW live .mul (.int i) (.int j) S Q := ⟨h0, h⟩
theorem b_div (h0 : CDivW i j) (h : Q (.int (i / j)) S) : bopW live .fdiv (.int i) (.int j) S Q := ⟨h0, h⟩
theorem b_mod (h0 : 0 < j) (h : Q (.int (i % j)) S) : bopW live .mod (.int i) (.int j) S Q := ⟨h0, h⟩
theorem b_pow (h0 : CPow i j) (h : Q (.int (i ^ j.toNat)) S) : bopW live .pow (.int i) (.int j) S Q := ⟨h0, h⟩
theorem b_cat {x y : W} (hx : rdL S x = some xs) (hy : rdL S y = some ys) (hl : xs.length + ys.length ≤ sizeLine) (h : mkL live (xs ++ ys) S Q) : bopW live .add x y S Q := by
  cases x <;> first | (cases hx; done) | (cases y <;> first | (cases hy; done) | exact ⟨xs, ys, hx, hy, hl, h⟩)
theorem b_rep {x : W} {k : Int} (hx : rdL S x = some xs) (hk : -(2 ^ 63) ≤ k ∧ k < 2 ^ 63) (hl : xs.length * k.toNat ≤ sizeLine) (h : mkL live (List.replicate k.toNat xs).flatten S Q) : bopW live .mul x (.int k) S Q := by
  cases x <;> first | (cases hx; done) | exact ⟨xs, hx, hk.1, hk.2, hl, h⟩
theorem c_lt {Q : Bool → Prop} (h : Q (decide (i < j))) : cmpW .Lt (.int i) (.int j) S Q := h
theorem c_le {Q : Bool → Prop} (h : Q (decide (i ≤ j))) : cmpW .LtE (.int i) (.int j) S Q := h
theorem c_gt {Q : Bool → Prop} (h : Q (decide (j < i))) : cmpW .Gt (.int i) (.int j) S Q := h
theorem c_ge {Q : Bool → Prop} (h : Q (decide (j ≤ i))) : cmpW .GtE (.int i) (.int j) S Q := h
end
theorem mk_f {ws : List W} (h : Q (.lst ws) S) : mkL false ws S Q := by
  unfold mkL
  rw [if_neg Bool.false_ne_true]
  exact h
theorem mk_t {ws : List W} (h : ∀ p, S p = none → Q (.ref p) (sup S p (.lst ws))) : mkL true ws S Q := by
  unfold mkL
  rw [if_pos rfl]
  exact h
end
theorem ite_d {p : Prop} [Decidable p] {A B : Prop} (h1 : p → A) (h2 : ¬p → B) : if decide p = true then A else B := by
  by_cases h : p
  · rw [if_pos (decide_eq_true h)]; exact h1 h
  · rw [if_neg (by simpa using h)]; exact h2 h
theorem ite_b {p : Bool} {A B : Prop} (h1 : p = true → A) (h2 : p = false → B) : if p = true then A else B := by
  cases p with
  | true => exact iteT (h1 rfl)
  | false => exact iteF (h2 rfl)
end MP

set_option Elab.async false
set_option linter.all false
set_option maxRecDepth 100000
set_option maxHeartbeats 4000000
/-! MP15: steps by value. -/
namespace MP
open PySem PySem.Spec PyProof.Rows L2

section
variable {S : Sto} {Q : WK} {live : Bool} {a : Addr} {ws xs : List W} {i : Int} {w v : W} {x y : W}
theorem ix_c (h : S a = some (.lst ws)) (hw : atI ws i = some w) (q : Q w S) : idxW (.ref a) (.int i) S Q := .inl ⟨ws, i, w, by rw [h]; rfl, rfl, hw, q⟩
theorem ix_l (hw : atI ws i = some w) (q : Q w S) : idxW (.lst ws) (.int i) S Q := ⟨w, hw, q⟩
theorem ix_t (hw : atI ws i = some w) (q : Q w S) : idxW (.tup ws) (.int i) S Q := ⟨w, hw, q⟩
theorem ix_d {kvs : List (Key × W)} {k : Key} (h : S a = some (.dk kvs)) (hk : keyW x = some k) (hw : getK kvs k = some w) (q : Q w S) : idxW (.ref a) x S Q :=
  .inr ⟨w, by show (S a).bind _ = _; rw [h]; show (keyW x).map _ = _; rw [hk]; show some (getK kvs k) = _; rw [hw], q⟩
theorem st_l {j : Nat} {Q : Sto → Prop} (h : S a = some (.lst ws)) (hj : ixN ws.length i = some j) (q : Q (sup S a (.lst (ws.set j v)))) : setW (.ref a) (.int i) v S Q := ⟨a, rfl, .inl ⟨ws, i, j, h, rfl, hj, q⟩⟩
theorem st_d {kvs : List (Key × W)} {k : Key} {Q : Sto → Prop} (h : S a = some (.dk kvs)) (hk : keyW x = some k) (hl : kvs.length < sizeLine) (q : Q (sup S a (.dk (setK kvs k v)))) : setW (.ref a) x v S Q := ⟨a, rfl, .inr (.inl ⟨kvs, k, h, hk, hl, q⟩)⟩
theorem ixN_nat {n j : Nat} (h : j < n) : ixN n (j : Int) = some j := by
  unfold ixN
  rw [if_pos (by omega), if_pos (by omega)]
  rfl
theorem ixN_int {n : Nat} {i : Int} (h0 : 0 ≤ i) (h : i < n) : ixN n i = some i.toNat := by
  unfold ixN
  rw [if_pos h0, if_pos h]
theorem atI_int {α : Type} {zs : List α} {i : Int} {z : α} (h0 : 0 ≤ i) (h : zs[i.toNat]? = some z) : atI zs i = some z := by
  have hl : i.toNat < zs.length := (List.getElem?_eq_some_iff.mp h).1
  unfold atI
  rw [ixN_int h0 (by omega)]
  exact h
/-- built-ins -/
theorem l_len {zs : List W} (h : rdQ S x = some zs) (hx : ∀ z, x ≠ .str z := by intro _ h; cases h) (q : Q (.int zs.length) S) : bltW live .len [x] S Q := by
  cases x <;> first | exact absurd rfl (hx _) | exact .inl ⟨zs, h, q⟩
theorem l_lenK {kvs : List (Key × W)} (h : S a = some (.dk kvs)) (q : Q (.int kvs.length) S) : bltW live .len [.ref a] S Q := .inr (.inl ⟨a, kvs, rfl, by rw [h]; rfl, q⟩)
theorem l_lenS {z : Str} (h : z.length ≤ sizeLine) (q : Q (.int z.length) S) : bltW live .len [.str z] S Q := ⟨h, q⟩
theorem l_abs (q : Q (.int (if i < 0 then -i else i)) S) : bltW live .abs [.int i] S Q := q
theorem l_max2 {j : Int} (q : ∀ m, m = max i j → Q (.int m) S) : bltW live .max2 [.int i, .int j] S Q := q _ (by
  by_cases h : j > i
  · rw [if_pos h]; omega
  · rw [if_neg h]; omega)
theorem l_min2 {j : Int} (q : ∀ m, m = min i j → Q (.int m) S) : bltW live .min2 [.int i, .int j] S Q := q _ (by
  by_cases h : j < i
  · rw [if_pos h]; omega
  · rw [if_neg h]; omega)
theorem ints_map : ∀ ns : List Int, intsW (ns.map W.int) = some ns
  | [] => rfl
  | n :: ns => by
    show (intsW (ns.map W.int)).map (n :: ·) = _
    rw [ints_map ns]; rfl
theorem bls_map : ∀ ns : List Bool, blsW (ns.map W.bl) = some ns
  | [] => rfl
  | n :: ns => by
    show (blsW (ns.map W.bl)).map (n :: ·) = _
    rw [bls_map ns]; rfl
theorem strs_map : ∀ ns : List Str, strsW (ns.map W.str) = some ns
  | [] => rfl
  | n :: ns => by
    show (strsW (ns.map W.str)).map (n :: ·) = _
    rw [strs_map ns]; rfl
theorem l_sum {ns : List Int} (h : rdL S x = some (ns.map W.int)) (q : Q (.int ns.sum) S) : bltW live .sum [x] S Q := ⟨_, ns, h, ints_map ns, q⟩
theorem l_minL {ns : List Int} (h : rdL S x = some (ns.map W.int)) (h0 : 0 < ns.length) (q : ∀ m, m ∈ ns → (∀ y, y ∈ ns → m ≤ y) → Q (.int m) S) : bltW live .minL [x] S Q := ⟨_, ns, h, ints_map ns, h0, q⟩
theorem l_maxL {ns : List Int} (h : rdL S x = some (ns.map W.int)) (h0 : 0 < ns.length) (q : ∀ m, m ∈ ns → (∀ y, y ∈ ns → y ≤ m) → Q (.int m) S) : bltW live .maxL [x] S Q := ⟨_, ns, h, ints_map ns, h0, q⟩
theorem l_all {ns : List Bool} (h : rdL S x = some (ns.map W.bl)) (q : Q (.bl (ns.all id)) S) : bltW live .all [x] S Q := ⟨_, ns, h, bls_map ns, q⟩
theorem l_any {ns : List Bool} (h : rdL S x = some (ns.map W.bl)) (q : Q (.bl (ns.any id)) S) : bltW live .any [x] S Q := ⟨_, ns, h, bls_map ns, q⟩
theorem l_intI (q : Q (.int i) S) : bltW live .int [.int i] S Q := q
theorem l_intB {b : Bool} (q : Q (.int (if b then 1 else 0)) S) : bltW live .int [.bl b] S Q := q
theorem l_list {zs : List W} (h : rdQ S x = some zs) (q : mkL live zs S Q) : bltW live .list [x] S Q := ⟨zs, h, q⟩
theorem l_tuple {zs : List W} (h : rdQ S x = some zs) (q : Q (.tup zs) S) : bltW live .tuple [x] S Q := ⟨zs, h, q⟩
/-- methods -/
theorem m_rcv {R : Prop} {m : Mth} (hm : m.T = "list" := by rfl) (h : S a = some (.lst ws)) (q : R) : rcvW m (.ref a) S ∧ R := by
  refine ⟨?_, q⟩
  cases m <;> first | exact ⟨ws, h⟩ | (cases hm; done) | exact absurd hm (by decide)
theorem m_app (h : S a = some (.lst ws)) (hl : ws.length < sizeLine) (q : Q .non (sup S a (.lst (ws ++ [y])))) : mthW .append (.ref a) [y] S Q := ⟨ws, h, hl, q⟩
theorem m_pop (h : S a = some (.lst ws)) (hw : ws[ws.length - 1]? = some w) (q : Q w (sup S a (.lst ws.dropLast))) : mthW .pop (.ref a) [] S Q := ⟨ws, w, h, hw, q⟩
theorem m_ext {zs : List W} (h : S a = some (.lst ws)) (hz : rdL S y = some zs) (hl : ws.length + zs.length ≤ sizeLine) (q : Q .non (sup S a (.lst (ws ++ zs)))) : mthW .extend (.ref a) [y] S Q := ⟨ws, zs, h, hz, hl, q⟩
/-- slices -/
theorem sl_f {zs : List W} {lo hi : Option Int} (q : Q (.lst (cutW zs lo hi)) S) : slcW false (.lst zs) lo hi S Q := ⟨zs, rfl, mk_f q⟩
theorem sl_r {zs : List W} {lo hi : Option Int} (h : S a = some (.lst zs)) (q : Q (.lst (cutW zs lo hi)) S) : slcW false (.ref a) lo hi S Q := ⟨zs, by show (S a).bind _ = _; rw [h]; rfl, mk_f q⟩
end
section
variable {Φ : Nat → Spec} {S : Sto} {Q : WK} {X : XC} {D : WEnds} {ρ : Env} {e : CE} {w : W}
theorem e_v0 (q : Q w S) : (wp Φ (.var 0)).e (some w :: ρ) S Q X := ⟨w, rfl, q⟩
theorem g_v0 {r0 : Option W} {Q : Env → Sto → Prop} (q : Q (some w :: ρ) S) : (wp Φ (.tnm 0)).g w (r0 :: ρ) S Q := q
theorem s_u0 {nx bk ct : Env → Sto → Prop} {rt : WK} {xc : XC} {sb : Bool} (h : (wp Φ e).e (some w :: ρ) S (fun y S1 => ∃ a b, w = .int a ∧ y = .int b ∧ nx (some (.int (augI sb a b)) :: ρ) S1) xc) : wps Φ (.aug 0 sb e) (some w :: ρ) S ⟨nx, rt, bk, ct, xc⟩ := ⟨w, rfl, h⟩
theorem e_v1 {r0 : Option W} (q : Q w S) : (wp Φ (.var 1)).e (r0 :: some w :: ρ) S Q X := ⟨w, rfl, q⟩
theorem g_v1 {r0 : Option W} {r1 : Option W} {Q : Env → Sto → Prop} (q : Q (r0 :: some w :: ρ) S) : (wp Φ (.tnm 1)).g w (r0 :: r1 :: ρ) S Q := q
theorem s_u1 {nx bk ct : Env → Sto → Prop} {rt : WK} {xc : XC} {r0 : Option W} {sb : Bool} (h : (wp Φ e).e (r0 :: some w :: ρ) S (fun y S1 => ∃ a b, w = .int a ∧ y = .int b ∧ nx (r0 :: some (.int (augI sb a b)) :: ρ) S1) xc) : wps Φ (.aug 1 sb e) (r0 :: some w :: ρ) S ⟨nx, rt, bk, ct, xc⟩ := ⟨w, rfl, h⟩
theorem e_v2 {r0 r1 : Option W} (q : Q w S) : (wp Φ (.var 2)).e (r0 :: r1 :: some w :: ρ) S Q X := ⟨w, rfl, q⟩
theorem g_v2 {r0 r1 : Option W} {r2 : Option W} {Q : Env → Sto → Prop} (q : Q (r0 :: r1 :: some w :: ρ) S) : (wp Φ (.tnm 2)).g w (r0 :: r1 :: r2 :: ρ) S Q := q
theorem s_u2 {nx bk ct : Env → Sto → Prop} {rt : WK} {xc : XC} {r0 r1 : Option W} {sb : Bool} (h : (wp Φ e).e (r0 :: r1 :: some w :: ρ) S (fun y S1 => ∃ a b, w = .int a ∧ y = .int b ∧ nx (r0 :: r1 :: some (.int (augI sb a b)) :: ρ) S1) xc) : wps Φ (.aug 2 sb e) (r0 :: r1 :: some w :: ρ) S ⟨nx, rt, bk, ct, xc⟩ := ⟨w, rfl, h⟩
theorem e_v3 {r0 r1 r2 : Option W} (q : Q w S) : (wp Φ (.var 3)).e (r0 :: r1 :: r2 :: some w :: ρ) S Q X := ⟨w, rfl, q⟩
theorem g_v3 {r0 r1 r2 : Option W} {r3 : Option W} {Q : Env → Sto → Prop} (q : Q (r0 :: r1 :: r2 :: some w :: ρ) S) : (wp Φ (.tnm 3)).g w (r0 :: r1 :: r2 :: r3 :: ρ) S Q := q
theorem s_u3 {nx bk ct : Env → Sto → Prop} {rt : WK} {xc : XC} {r0 r1 r2 : Option W} {sb : Bool} (h : (wp Φ e).e (r0 :: r1 :: r2 :: some w :: ρ) S (fun y S1 => ∃ a b, w = .int a ∧ y = .int b ∧ nx (r0 :: r1 :: r2 :: some (.int (augI sb a b)) :: ρ) S1) xc) : wps Φ (.aug 3 sb e) (r0 :: r1 :: r2 :: some w :: ρ) S ⟨nx, rt, bk, ct, xc⟩ := ⟨w, rfl, h⟩
theorem e_v4 {r0 r1 r2 r3 : Option W} (q : Q w S) : (wp Φ (.var 4)).e (r0 :: r1 :: r2 :: r3 :: some w :: ρ) S Q X := ⟨w, rfl, q⟩
theorem g_v4 {r0 r1 r2 r3 : Option W} {r4 : Option W} {Q : Env → Sto → Prop} (q : Q (r0 :: r1 :: r2 :: r3 :: some w :: ρ) S) : (wp Φ (.tnm 4)).g w (r0 :: r1 :: r2 :: r3 :: r4 :: ρ) S Q := q
theorem s_u4 {nx bk ct : Env → Sto → Prop} {rt : WK} {xc : XC} {r0 r1 r2 r3 : Option W} {sb : Bool} (h : (wp Φ e).e (r0 :: r1 :: r2 :: r3 :: some w :: ρ) S (fun y S1 => ∃ a b, w = .int a ∧ y = .int b ∧ nx (r0 :: r1 :: r2 :: r3 :: some (.int (augI sb a b)) :: ρ) S1) xc) : wps Φ (.aug 4 sb e) (r0 :: r1 :: r2 :: r3 :: some w :: ρ) S ⟨nx, rt, bk, ct, xc⟩ := ⟨w, rfl, h⟩
theorem e_v5 {r0 r1 r2 r3 r4 : Option W} (q : Q w S) : (wp Φ (.var 5)).e (r0 :: r1 :: r2 :: r3 :: r4 :: some w :: ρ) S Q X := ⟨w, rfl, q⟩
theorem g_v5 {r0 r1 r2 r3 r4 : Option W} {r5 : Option W} {Q : Env → Sto → Prop} (q : Q (r0 :: r1 :: r2 :: r3 :: r4 :: some w :: ρ) S) : (wp Φ (.tnm 5)).g w (r0 :: r1 :: r2 :: r3 :: r4 :: r5 :: ρ) S Q := q
theorem s_u5 {nx bk ct : Env → Sto → Prop} {rt : WK} {xc : XC} {r0 r1 r2 r3 r4 : Option W} {sb : Bool} (h : (wp Φ e).e (r0 :: r1 :: r2 :: r3 :: r4 :: some w :: ρ) S (fun y S1 => ∃ a b, w = .int a ∧ y = .int b ∧ nx (r0 :: r1 :: r2 :: r3 :: r4 :: some (.int (augI sb a b)) :: ρ) S1) xc) : wps Φ (.aug 5 sb e) (r0 :: r1 :: r2 :: r3 :: r4 :: some w :: ρ) S ⟨nx, rt, bk, ct, xc⟩ := ⟨w, rfl, h⟩
theorem e_v6 {r0 r1 r2 r3 r4 r5 : Option W} (q : Q w S) : (wp Φ (.var 6)).e (r0 :: r1 :: r2 :: r3 :: r4 :: r5 :: some w :: ρ) S Q X := ⟨w, rfl, q⟩
theorem g_v6 {r0 r1 r2 r3 r4 r5 : Option W} {r6 : Option W} {Q : Env → Sto → Prop} (q : Q (r0 :: r1 :: r2 :: r3 :: r4 :: r5 :: some w :: ρ) S) : (wp Φ (.tnm 6)).g w (r0 :: r1 :: r2 :: r3 :: r4 :: r5 :: r6 :: ρ) S Q := q
theorem s_u6 {nx bk ct : Env → Sto → Prop} {rt : WK} {xc : XC} {r0 r1 r2 r3 r4 r5 : Option W} {sb : Bool} (h : (wp Φ e).e (r0 :: r1 :: r2 :: r3 :: r4 :: r5 :: some w :: ρ) S (fun y S1 => ∃ a b, w = .int a ∧ y = .int b ∧ nx (r0 :: r1 :: r2 :: r3 :: r4 :: r5 :: some (.int (augI sb a b)) :: ρ) S1) xc) : wps Φ (.aug 6 sb e) (r0 :: r1 :: r2 :: r3 :: r4 :: r5 :: some w :: ρ) S ⟨nx, rt, bk, ct, xc⟩ := ⟨w, rfl, h⟩
theorem e_v7 {r0 r1 r2 r3 r4 r5 r6 : Option W} (q : Q w S) : (wp Φ (.var 7)).e (r0 :: r1 :: r2 :: r3 :: r4 :: r5 :: r6 :: some w :: ρ) S Q X := ⟨w, rfl, q⟩
theorem g_v7 {r0 r1 r2 r3 r4 r5 r6 : Option W} {r7 : Option W} {Q : Env → Sto → Prop} (q : Q (r0 :: r1 :: r2 :: r3 :: r4 :: r5 :: r6 :: some w :: ρ) S) : (wp Φ (.tnm 7)).g w (r0 :: r1 :: r2 :: r3 :: r4 :: r5 :: r6 :: r7 :: ρ) S Q := q
theorem s_u7 {nx bk ct : Env → Sto → Prop} {rt : WK} {xc : XC} {r0 r1 r2 r3 r4 r5 r6 : Option W} {sb : Bool} (h : (wp Φ e).e (r0 :: r1 :: r2 :: r3 :: r4 :: r5 :: r6 :: some w :: ρ) S (fun y S1 => ∃ a b, w = .int a ∧ y = .int b ∧ nx (r0 :: r1 :: r2 :: r3 :: r4 :: r5 :: r6 :: some (.int (augI sb a b)) :: ρ) S1) xc) : wps Φ (.aug 7 sb e) (r0 :: r1 :: r2 :: r3 :: r4 :: r5 :: r6 :: some w :: ρ) S ⟨nx, rt, bk, ct, xc⟩ := ⟨w, rfl, h⟩
theorem e_v8 {r0 r1 r2 r3 r4 r5 r6 r7 : Option W} (q : Q w S) : (wp Φ (.var 8)).e (r0 :: r1 :: r2 :: r3 :: r4 :: r5 :: r6 :: r7 :: some w :: ρ) S Q X := ⟨w, rfl, q⟩
theorem g_v8 {r0 r1 r2 r3 r4 r5 r6 r7 : Option W} {r8 : Option W} {Q : Env → Sto → Prop} (q : Q (r0 :: r1 :: r2 :: r3 :: r4 :: r5 :: r6 :: r7 :: some w :: ρ) S) : (wp Φ (.tnm 8)).g w (r0 :: r1 :: r2 :: r3 :: r4 :: r5 :: r6 :: r7 :: r8 :: ρ) S Q := q
theorem s_u8 {nx bk ct : Env → Sto → Prop} {rt : WK} {xc : XC} {r0 r1 r2 r3 r4 r5 r6 r7 : Option W} {sb : Bool} (h : (wp Φ e).e (r0 :: r1 :: r2 :: r3 :: r4 :: r5 :: r6 :: r7 :: some w :: ρ) S (fun y S1 => ∃ a b, w = .int a ∧ y = .int b ∧ nx (r0 :: r1 :: r2 :: r3 :: r4 :: r5 :: r6 :: r7 :: some (.int (augI sb a b)) :: ρ) S1) xc) : wps Φ (.aug 8 sb e) (r0 :: r1 :: r2 :: r3 :: r4 :: r5 :: r6 :: r7 :: some w :: ρ) S ⟨nx, rt, bk, ct, xc⟩ := ⟨w, rfl, h⟩
theorem e_v9 {r0 r1 r2 r3 r4 r5 r6 r7 r8 : Option W} (q : Q w S) : (wp Φ (.var 9)).e (r0 :: r1 :: r2 :: r3 :: r4 :: r5 :: r6 :: r7 :: r8 :: some w :: ρ) S Q X := ⟨w, rfl, q⟩
theorem g_v9 {r0 r1 r2 r3 r4 r5 r6 r7 r8 : Option W} {r9 : Option W} {Q : Env → Sto → Prop} (q : Q (r0 :: r1 :: r2 :: r3 :: r4 :: r5 :: r6 :: r7 :: r8 :: some w :: ρ) S) : (wp Φ (.tnm 9)).g w (r0 :: r1 :: r2 :: r3 :: r4 :: r5 :: r6 :: r7 :: r8 :: r9 :: ρ) S Q := q
theorem s_u9 {nx bk ct : Env → Sto → Prop} {rt : WK} {xc : XC} {r0 r1 r2 r3 r4 r5 r6 r7 r8 : Option W} {sb : Bool} (h : (wp Φ e).e (r0 :: r1 :: r2 :: r3 :: r4 :: r5 :: r6 :: r7 :: r8 :: some w :: ρ) S (fun y S1 => ∃ a b, w = .int a ∧ y = .int b ∧ nx (r0 :: r1 :: r2 :: r3 :: r4 :: r5 :: r6 :: r7 :: r8 :: some (.int (augI sb a b)) :: ρ) S1) xc) : wps Φ (.aug 9 sb e) (r0 :: r1 :: r2 :: r3 :: r4 :: r5 :: r6 :: r7 :: r8 :: some w :: ρ) S ⟨nx, rt, bk, ct, xc⟩ := ⟨w, rfl, h⟩
theorem e_v10 {r0 r1 r2 r3 r4 r5 r6 r7 r8 r9 : Option W} (q : Q w S) : (wp Φ (.var 10)).e (r0 :: r1 :: r2 :: r3 :: r4 :: r5 :: r6 :: r7 :: r8 :: r9 :: some w :: ρ) S Q X := ⟨w, rfl, q⟩
theorem g_v10 {r0 r1 r2 r3 r4 r5 r6 r7 r8 r9 : Option W} {r10 : Option W} {Q : Env → Sto → Prop} (q : Q (r0 :: r1 :: r2 :: r3 :: r4 :: r5 :: r6 :: r7 :: r8 :: r9 :: some w :: ρ) S) : (wp Φ (.tnm 10)).g w (r0 :: r1 :: r2 :: r3 :: r4 :: r5 :: r6 :: r7 :: r8 :: r9 :: r10 :: ρ) S Q := q
theorem s_u10 {nx bk ct : Env → Sto → Prop} {rt : WK} {xc : XC} {r0 r1 r2 r3 r4 r5 r6 r7 r8 r9 : Option W} {sb : Bool} (h : (wp Φ e).e (r0 :: r1 :: r2 :: r3 :: r4 :: r5 :: r6 :: r7 :: r8 :: r9 :: some w :: ρ) S (fun y S1 => ∃ a b, w = .int a ∧ y = .int b ∧ nx (r0 :: r1 :: r2 :: r3 :: r4 :: r5 :: r6 :: r7 :: r8 :: r9 :: some (.int (augI sb a b)) :: ρ) S1) xc) : wps Φ (.aug 10 sb e) (r0 :: r1 :: r2 :: r3 :: r4 :: r5 :: r6 :: r7 :: r8 :: r9 :: some w :: ρ) S ⟨nx, rt, bk, ct, xc⟩ := ⟨w, rfl, h⟩
theorem e_v11 {r0 r1 r2 r3 r4 r5 r6 r7 r8 r9 r10 : Option W} (q : Q w S) : (wp Φ (.var 11)).e (r0 :: r1 :: r2 :: r3 :: r4 :: r5 :: r6 :: r7 :: r8 :: r9 :: r10 :: some w :: ρ) S Q X := ⟨w, rfl, q⟩
theorem g_v11 {r0 r1 r2 r3 r4 r5 r6 r7 r8 r9 r10 : Option W} {r11 : Option W} {Q : Env → Sto → Prop} (q : Q (r0 :: r1 :: r2 :: r3 :: r4 :: r5 :: r6 :: r7 :: r8 :: r9 :: r10 :: some w :: ρ) S) : (wp Φ (.tnm 11)).g w (r0 :: r1 :: r2 :: r3 :: r4 :: r5 :: r6 :: r7 :: r8 :: r9 :: r10 :: r11 :: ρ) S Q := q
theorem s_u11 {nx bk ct : Env → Sto → Prop} {rt : WK} {xc : XC} {r0 r1 r2 r3 r4 r5 r6 r7 r8 r9 r10 : Option W} {sb : Bool} (h : (wp Φ e).e (r0 :: r1 :: r2 :: r3 :: r4 :: r5 :: r6 :: r7 :: r8 :: r9 :: r10 :: some w :: ρ) S (fun y S1 => ∃ a b, w = .int a ∧ y = .int b ∧ nx (r0 :: r1 :: r2 :: r3 :: r4 :: r5 :: r6 :: r7 :: r8 :: r9 :: r10 :: some (.int (augI sb a b)) :: ρ) S1) xc) : wps Φ (.aug 11 sb e) (r0 :: r1 :: r2 :: r3 :: r4 :: r5 :: r6 :: r7 :: r8 :: r9 :: r10 :: some w :: ρ) S ⟨nx, rt, bk, ct, xc⟩ := ⟨w, rfl, h⟩
theorem e_v12 {r0 r1 r2 r3 r4 r5 r6 r7 r8 r9 r10 r11 : Option W} (q : Q w S) : (wp Φ (.var 12)).e (r0 :: r1 :: r2 :: r3 :: r4 :: r5 :: r6 :: r7 :: r8 :: r9 :: r10 :: r11 :: some w :: ρ) S Q X := ⟨w, rfl, q⟩
theorem g_v12 {r0 r1 r2 r3 r4 r5 r6 r7 r8 r9 r10 r11 : Option W} {r12 : Option W} {Q : Env → Sto → Prop} (q : Q (r0 :: r1 :: r2 :: r3 :: r4 :: r5 :: r6 :: r7 :: r8 :: r9 :: r10 :: r11 :: some w :: ρ) S) : (wp Φ (.tnm 12)).g w (r0 :: r1 :: r2 :: r3 :: r4 :: r5 :: r6 :: r7 :: r8 :: r9 :: r10 :: r11 :: r12 :: ρ) S Q := q
theorem s_u12 {nx bk ct : Env → Sto → Prop} {rt : WK} {xc : XC} {r0 r1 r2 r3 r4 r5 r6 r7 r8 r9 r10 r11 : Option W} {sb : Bool} (h : (wp Φ e).e (r0 :: r1 :: r2 :: r3 :: r4 :: r5 :: r6 :: r7 :: r8 :: r9 :: r10 :: r11 :: some w :: ρ) S (fun y S1 => ∃ a b, w = .int a ∧ y = .int b ∧ nx (r0 :: r1 :: r2 :: r3 :: r4 :: r5 :: r6 :: r7 :: r8 :: r9 :: r10 :: r11 :: some (.int (augI sb a b)) :: ρ) S1) xc) : wps Φ (.aug 12 sb e) (r0 :: r1 :: r2 :: r3 :: r4 :: r5 :: r6 :: r7 :: r8 :: r9 :: r10 :: r11 :: some w :: ρ) S ⟨nx, rt, bk, ct, xc⟩ := ⟨w, rfl, h⟩
theorem e_v13 {r0 r1 r2 r3 r4 r5 r6 r7 r8 r9 r10 r11 r12 : Option W} (q : Q w S) : (wp Φ (.var 13)).e (r0 :: r1 :: r2 :: r3 :: r4 :: r5 :: r6 :: r7 :: r8 :: r9 :: r10 :: r11 :: r12 :: some w :: ρ) S Q X := ⟨w, rfl, q⟩
theorem g_v13 {r0 r1 r2 r3 r4 r5 r6 r7 r8 r9 r10 r11 r12 : Option W} {r13 : Option W} {Q : Env → Sto → Prop} (q : Q (r0 :: r1 :: r2 :: r3 :: r4 :: r5 :: r6 :: r7 :: r8 :: r9 :: r10 :: r11 :: r12 :: some w :: ρ) S) : (wp Φ (.tnm 13)).g w (r0 :: r1 :: r2 :: r3 :: r4 :: r5 :: r6 :: r7 :: r8 :: r9 :: r10 :: r11 :: r12 :: r13 :: ρ) S Q := q
theorem s_u13 {nx bk ct : Env → Sto → Prop} {rt : WK} {xc : XC} {r0 r1 r2 r3 r4 r5 r6 r7 r8 r9 r10 r11 r12 : Option W} {sb : Bool} (h : (wp Φ e).e (r0 :: r1 :: r2 :: r3 :: r4 :: r5 :: r6 :: r7 :: r8 :: r9 :: r10 :: r11 :: r12 :: some w :: ρ) S (fun y S1 => ∃ a b, w = .int a ∧ y = .int b ∧ nx (r0 :: r1 :: r2 :: r3 :: r4 :: r5 :: r6 :: r7 :: r8 :: r9 :: r10 :: r11 :: r12 :: some (.int (augI sb a b)) :: ρ) S1) xc) : wps Φ (.aug 13 sb e) (r0 :: r1 :: r2 :: r3 :: r4 :: r5 :: r6 :: r7 :: r8 :: r9 :: r10 :: r11 :: r12 :: some w :: ρ) S ⟨nx, rt, bk, ct, xc⟩ := ⟨w, rfl, h⟩
theorem e_v14 {r0 r1 r2 r3 r4 r5 r6 r7 r8 r9 r10 r11 r12 r13 : Option W} (q : Q w S) : (wp Φ (.var 14)).e (r0 :: r1 :: r2 :: r3 :: r4 :: r5 :: r6 :: r7 :: r8 :: r9 :: r10 :: r11 :: r12 :: r13 :: some w :: ρ) S Q X := ⟨w, rfl, q⟩
theorem g_v14 {r0 r1 r2 r3 r4 r5 r6 r7 r8 r9 r10 r11 r12 r13 : Option W} {r14 : Option W} {Q : Env → Sto → Prop} (q : Q (r0 :: r1 :: r2 :: r3 :: r4 :: r5 :: r6 :: r7 :: r8 :: r9 :: r10 :: r11 :: r12 :: r13 :: some w :: ρ) S) : (wp Φ (.tnm 14)).g w (r0 :: r1 :: r2 :: r3 :: r4 :: r5 :: r6 :: r7 :: r8 :: r9 :: r10 :: r11 :: r12 :: r13 :: r14 :: ρ) S Q := q
theorem s_u14 {nx bk ct : Env → Sto → Prop} {rt : WK} {xc : XC} {r0 r1 r2 r3 r4 r5 r6 r7 r8 r9 r10 r11 r12 r13 : Option W} {sb : Bool} (h : (wp Φ e).e (r0 :: r1 :: r2 :: r3 :: r4 :: r5 :: r6 :: r7 :: r8 :: r9 :: r10 :: r11 :: r12 :: r13 :: some w :: ρ) S (fun y S1 => ∃ a b, w = .int a ∧ y = .int b ∧ nx (r0 :: r1 :: r2 :: r3 :: r4 :: r5 :: r6 :: r7 :: r8 :: r9 :: r10 :: r11 :: r12 :: r13 :: some (.int (augI sb a b)) :: ρ) S1) xc) : wps Φ (.aug 14 sb e) (r0 :: r1 :: r2 :: r3 :: r4 :: r5 :: r6 :: r7 :: r8 :: r9 :: r10 :: r11 :: r12 :: r13 :: some w :: ρ) S ⟨nx, rt, bk, ct, xc⟩ := ⟨w, rfl, h⟩
theorem e_v15 {r0 r1 r2 r3 r4 r5 r6 r7 r8 r9 r10 r11 r12 r13 r14 : Option W} (q : Q w S) : (wp Φ (.var 15)).e (r0 :: r1 :: r2 :: r3 :: r4 :: r5 :: r6 :: r7 :: r8 :: r9 :: r10 :: r11 :: r12 :: r13 :: r14 :: some w :: ρ) S Q X := ⟨w, rfl, q⟩
theorem g_v15 {r0 r1 r2 r3 r4 r5 r6 r7 r8 r9 r10 r11 r12 r13 r14 : Option W} {r15 : Option W} {Q : Env → Sto → Prop} (q : Q (r0 :: r1 :: r2 :: r3 :: r4 :: r5 :: r6 :: r7 :: r8 :: r9 :: r10 :: r11 :: r12 :: r13 :: r14 :: some w :: ρ) S) : (wp Φ (.tnm 15)).g w (r0 :: r1 :: r2 :: r3 :: r4 :: r5 :: r6 :: r7 :: r8 :: r9 :: r10 :: r11 :: r12 :: r13 :: r14 :: r15 :: ρ) S Q := q
theorem s_u15 {nx bk ct : Env → Sto → Prop} {rt : WK} {xc : XC} {r0 r1 r2 r3 r4 r5 r6 r7 r8 r9 r10 r11 r12 r13 r14 : Option W} {sb : Bool} (h : (wp Φ e).e (r0 :: r1 :: r2 :: r3 :: r4 :: r5 :: r6 :: r7 :: r8 :: r9 :: r10 :: r11 :: r12 :: r13 :: r14 :: some w :: ρ) S (fun y S1 => ∃ a b, w = .int a ∧ y = .int b ∧ nx (r0 :: r1 :: r2 :: r3 :: r4 :: r5 :: r6 :: r7 :: r8 :: r9 :: r10 :: r11 :: r12 :: r13 :: r14 :: some (.int (augI sb a b)) :: ρ) S1) xc) : wps Φ (.aug 15 sb e) (r0 :: r1 :: r2 :: r3 :: r4 :: r5 :: r6 :: r7 :: r8 :: r9 :: r10 :: r11 :: r12 :: r13 :: r14 :: some w :: ρ) S ⟨nx, rt, bk, ct, xc⟩ := ⟨w, rfl, h⟩
theorem e_v16 {r0 r1 r2 r3 r4 r5 r6 r7 r8 r9 r10 r11 r12 r13 r14 r15 : Option W} (q : Q w S) : (wp Φ (.var 16)).e (r0 :: r1 :: r2 :: r3 :: r4 :: r5 :: r6 :: r7 :: r8 :: r9 :: r10 :: r11 :: r12 :: r13 :: r14 :: r15 :: some w :: ρ) S Q X := ⟨w, rfl, q⟩
theorem g_v16 {r0 r1 r2 r3 r4 r5 r6 r7 r8 r9 r10 r11 r12 r13 r14 r15 : Option W} {r16 : Option W} {Q : Env → Sto → Prop} (q : Q (r0 :: r1 :: r2 :: r3 :: r4 :: r5 :: r6 :: r7 :: r8 :: r9 :: r10 :: r11 :: r12 :: r13 :: r14 :: r15 :: some w :: ρ) S) : (wp Φ (.tnm 16)).g w (r0 :: r1 :: r2 :: r3 :: r4 :: r5 :: r6 :: r7 :: r8 :: r9 :: r10 :: r11 :: r12 :: r13 :: r14 :: r15 :: r16 :: ρ) S Q := q
theorem s_u16 {nx bk ct : Env → Sto → Prop} {rt : WK} {xc : XC} {r0 r1 r2 r3 r4 r5 r6 r7 r8 r9 r10 r11 r12 r13 r14 r15 : Option W} {sb : Bool} (h : (wp Φ e).e (r0 :: r1 :: r2 :: r3 :: r4 :: r5 :: r6 :: r7 :: r8 :: r9 :: r10 :: r11 :: r12 :: r13 :: r14 :: r15 :: some w :: ρ) S (fun y S1 => ∃ a b, w = .int a ∧ y = .int b ∧ nx (r0 :: r1 :: r2 :: r3 :: r4 :: r5 :: r6 :: r7 :: r8 :: r9 :: r10 :: r11 :: r12 :: r13 :: r14 :: r15 :: some (.int (augI sb a b)) :: ρ) S1) xc) : wps Φ (.aug 16 sb e) (r0 :: r1 :: r2 :: r3 :: r4 :: r5 :: r6 :: r7 :: r8 :: r9 :: r10 :: r11 :: r12 :: r13 :: r14 :: r15 :: some w :: ρ) S ⟨nx, rt, bk, ct, xc⟩ := ⟨w, rfl, h⟩
theorem e_v17 {r0 r1 r2 r3 r4 r5 r6 r7 r8 r9 r10 r11 r12 r13 r14 r15 r16 : Option W} (q : Q w S) : (wp Φ (.var 17)).e (r0 :: r1 :: r2 :: r3 :: r4 :: r5 :: r6 :: r7 :: r8 :: r9 :: r10 :: r11 :: r12 :: r13 :: r14 :: r15 :: r16 :: some w :: ρ) S Q X := ⟨w, rfl, q⟩
theorem g_v17 {r0 r1 r2 r3 r4 r5 r6 r7 r8 r9 r10 r11 r12 r13 r14 r15 r16 : Option W} {r17 : Option W} {Q : Env → Sto → Prop} (q : Q (r0 :: r1 :: r2 :: r3 :: r4 :: r5 :: r6 :: r7 :: r8 :: r9 :: r10 :: r11 :: r12 :: r13 :: r14 :: r15 :: r16 :: some w :: ρ) S) : (wp Φ (.tnm 17)).g w (r0 :: r1 :: r2 :: r3 :: r4 :: r5 :: r6 :: r7 :: r8 :: r9 :: r10 :: r11 :: r12 :: r13 :: r14 :: r15 :: r16 :: r17 :: ρ) S Q := q
theorem s_u17 {nx bk ct : Env → Sto → Prop} {rt : WK} {xc : XC} {r0 r1 r2 r3 r4 r5 r6 r7 r8 r9 r10 r11 r12 r13 r14 r15 r16 : Option W} {sb : Bool} (h : (wp Φ e).e (r0 :: r1 :: r2 :: r3 :: r4 :: r5 :: r6 :: r7 :: r8 :: r9 :: r10 :: r11 :: r12 :: r13 :: r14 :: r15 :: r16 :: some w :: ρ) S (fun y S1 => ∃ a b, w = .int a ∧ y = .int b ∧ nx (r0 :: r1 :: r2 :: r3 :: r4 :: r5 :: r6 :: r7 :: r8 :: r9 :: r10 :: r11 :: r12 :: r13 :: r14 :: r15 :: r16 :: some (.int (augI sb a b)) :: ρ) S1) xc) : wps Φ (.aug 17 sb e) (r0 :: r1 :: r2 :: r3 :: r4 :: r5 :: r6 :: r7 :: r8 :: r9 :: r10 :: r11 :: r12 :: r13 :: r14 :: r15 :: r16 :: some w :: ρ) S ⟨nx, rt, bk, ct, xc⟩ := ⟨w, rfl, h⟩
theorem e_v18 {r0 r1 r2 r3 r4 r5 r6 r7 r8 r9 r10 r11 r12 r13 r14 r15 r16 r17 : Option W} (q : Q w S) : (wp Φ (.var 18)).e (r0 :: r1 :: r2 :: r3 :: r4 :: r5 :: r6 :: r7 :: r8 :: r9 :: r10 :: r11 :: r12 :: r13 :: r14 :: r15 :: r16 :: r17 :: some w :: ρ) S Q X := ⟨w, rfl, q⟩
theorem g_v18 {r0 r1 r2 r3 r4 r5 r6 r7 r8 r9 r10 r11 r12 r13 r14 r15 r16 r17 : Option W} {r18 : Option W} {Q : Env → Sto → Prop} (q : Q (r0 :: r1 :: r2 :: r3 :: r4 :: r5 :: r6 :: r7 :: r8 :: r9 :: r10 :: r11 :: r12 :: r13 :: r14 :: r15 :: r16 :: r17 :: some w :: ρ) S) : (wp Φ (.tnm 18)).g w (r0 :: r1 :: r2 :: r3 :: r4 :: r5 :: r6 :: r7 :: r8 :: r9 :: r10 :: r11 :: r12 :: r13 :: r14 :: r15 :: r16 :: r17 :: r18 :: ρ) S Q := q
theorem s_u18 {nx bk ct : Env → Sto → Prop} {rt : WK} {xc : XC} {r0 r1 r2 r3 r4 r5 r6 r7 r8 r9 r10 r11 r12 r13 r14 r15 r16 r17 : Option W} {sb : Bool} (h : (wp Φ e).e (r0 :: r1 :: r2 :: r3 :: r4 :: r5 :: r6 :: r7 :: r8 :: r9 :: r10 :: r11 :: r12 :: r13 :: r14 :: r15 :: r16 :: r17 :: some w :: ρ) S (fun y S1 => ∃ a b, w = .int a ∧ y = .int b ∧ nx (r0 :: r1 :: r2 :: r3 :: r4 :: r5 :: r6 :: r7 :: r8 :: r9 :: r10 :: r11 :: r12 :: r13 :: r14 :: r15 :: r16 :: r17 :: some (.int (augI sb a b)) :: ρ) S1) xc) : wps Φ (.aug 18 sb e) (r0 :: r1 :: r2 :: r3 :: r4 :: r5 :: r6 :: r7 :: r8 :: r9 :: r10 :: r11 :: r12 :: r13 :: r14 :: r15 :: r16 :: r17 :: some w :: ρ) S ⟨nx, rt, bk, ct, xc⟩ := ⟨w, rfl, h⟩
theorem e_v19 {r0 r1 r2 r3 r4 r5 r6 r7 r8 r9 r10 r11 r12 r13 r14 r15 r16 r17 r18 : Option W} (q : Q w S) : (wp Φ (.var 19)).e (r0 :: r1 :: r2 :: r3 :: r4 :: r5 :: r6 :: r7 :: r8 :: r9 :: r10 :: r11 :: r12 :: r13 :: r14 :: r15 :: r16 :: r17 :: r18 :: some w :: ρ) S Q X := ⟨w, rfl, q⟩
theorem g_v19 {r0 r1 r2 r3 r4 r5 r6 r7 r8 r9 r10 r11 r12 r13 r14 r15 r16 r17 r18 : Option W} {r19 : Option W} {Q : Env → Sto → Prop} (q : Q (r0 :: r1 :: r2 :: r3 :: r4 :: r5 :: r6 :: r7 :: r8 :: r9 :: r10 :: r11 :: r12 :: r13 :: r14 :: r15 :: r16 :: r17 :: r18 :: some w :: ρ) S) : (wp Φ (.tnm 19)).g w (r0 :: r1 :: r2 :: r3 :: r4 :: r5 :: r6 :: r7 :: r8 :: r9 :: r10 :: r11 :: r12 :: r13 :: r14 :: r15 :: r16 :: r17 :: r18 :: r19 :: ρ) S Q := q
theorem s_u19 {nx bk ct : Env → Sto → Prop} {rt : WK} {xc : XC} {r0 r1 r2 r3 r4 r5 r6 r7 r8 r9 r10 r11 r12 r13 r14 r15 r16 r17 r18 : Option W} {sb : Bool} (h : (wp Φ e).e (r0 :: r1 :: r2 :: r3 :: r4 :: r5 :: r6 :: r7 :: r8 :: r9 :: r10 :: r11 :: r12 :: r13 :: r14 :: r15 :: r16 :: r17 :: r18 :: some w :: ρ) S (fun y S1 => ∃ a b, w = .int a ∧ y = .int b ∧ nx (r0 :: r1 :: r2 :: r3 :: r4 :: r5 :: r6 :: r7 :: r8 :: r9 :: r10 :: r11 :: r12 :: r13 :: r14 :: r15 :: r16 :: r17 :: r18 :: some (.int (augI sb a b)) :: ρ) S1) xc) : wps Φ (.aug 19 sb e) (r0 :: r1 :: r2 :: r3 :: r4 :: r5 :: r6 :: r7 :: r8 :: r9 :: r10 :: r11 :: r12 :: r13 :: r14 :: r15 :: r16 :: r17 :: r18 :: some w :: ρ) S ⟨nx, rt, bk, ct, xc⟩ := ⟨w, rfl, h⟩
theorem s_gf0 {nx bk ct : Env → Sto → Prop} {rt : WK} {xc : XC} {p : Addr} {ws : List W} (h1 : S p = some (.lst ws)) (h : nx (some (.lst ws) :: ρ) (sdel S p)) : wps Φ (.gfrz 0) (some (.ref p) :: ρ) S ⟨nx, rt, bk, ct, xc⟩ := ⟨p, ws, rfl, h1, h⟩
theorem s_gf1 {nx bk ct : Env → Sto → Prop} {rt : WK} {xc : XC} {r0 : Option W} {p : Addr} {ws : List W} (h1 : S p = some (.lst ws)) (h : nx (r0 :: some (.lst ws) :: ρ) (sdel S p)) : wps Φ (.gfrz 1) (r0 :: some (.ref p) :: ρ) S ⟨nx, rt, bk, ct, xc⟩ := ⟨p, ws, rfl, h1, h⟩
theorem s_gf2 {nx bk ct : Env → Sto → Prop} {rt : WK} {xc : XC} {r0 r1 : Option W} {p : Addr} {ws : List W} (h1 : S p = some (.lst ws)) (h : nx (r0 :: r1 :: some (.lst ws) :: ρ) (sdel S p)) : wps Φ (.gfrz 2) (r0 :: r1 :: some (.ref p) :: ρ) S ⟨nx, rt, bk, ct, xc⟩ := ⟨p, ws, rfl, h1, h⟩
theorem s_gf3 {nx bk ct : Env → Sto → Prop} {rt : WK} {xc : XC} {r0 r1 r2 : Option W} {p : Addr} {ws : List W} (h1 : S p = some (.lst ws)) (h : nx (r0 :: r1 :: r2 :: some (.lst ws) :: ρ) (sdel S p)) : wps Φ (.gfrz 3) (r0 :: r1 :: r2 :: some (.ref p) :: ρ) S ⟨nx, rt, bk, ct, xc⟩ := ⟨p, ws, rfl, h1, h⟩
theorem s_gf4 {nx bk ct : Env → Sto → Prop} {rt : WK} {xc : XC} {r0 r1 r2 r3 : Option W} {p : Addr} {ws : List W} (h1 : S p = some (.lst ws)) (h : nx (r0 :: r1 :: r2 :: r3 :: some (.lst ws) :: ρ) (sdel S p)) : wps Φ (.gfrz 4) (r0 :: r1 :: r2 :: r3 :: some (.ref p) :: ρ) S ⟨nx, rt, bk, ct, xc⟩ := ⟨p, ws, rfl, h1, h⟩
theorem s_gf5 {nx bk ct : Env → Sto → Prop} {rt : WK} {xc : XC} {r0 r1 r2 r3 r4 : Option W} {p : Addr} {ws : List W} (h1 : S p = some (.lst ws)) (h : nx (r0 :: r1 :: r2 :: r3 :: r4 :: some (.lst ws) :: ρ) (sdel S p)) : wps Φ (.gfrz 5) (r0 :: r1 :: r2 :: r3 :: r4 :: some (.ref p) :: ρ) S ⟨nx, rt, bk, ct, xc⟩ := ⟨p, ws, rfl, h1, h⟩
theorem s_gf6 {nx bk ct : Env → Sto → Prop} {rt : WK} {xc : XC} {r0 r1 r2 r3 r4 r5 : Option W} {p : Addr} {ws : List W} (h1 : S p = some (.lst ws)) (h : nx (r0 :: r1 :: r2 :: r3 :: r4 :: r5 :: some (.lst ws) :: ρ) (sdel S p)) : wps Φ (.gfrz 6) (r0 :: r1 :: r2 :: r3 :: r4 :: r5 :: some (.ref p) :: ρ) S ⟨nx, rt, bk, ct, xc⟩ := ⟨p, ws, rfl, h1, h⟩
theorem s_gf7 {nx bk ct : Env → Sto → Prop} {rt : WK} {xc : XC} {r0 r1 r2 r3 r4 r5 r6 : Option W} {p : Addr} {ws : List W} (h1 : S p = some (.lst ws)) (h : nx (r0 :: r1 :: r2 :: r3 :: r4 :: r5 :: r6 :: some (.lst ws) :: ρ) (sdel S p)) : wps Φ (.gfrz 7) (r0 :: r1 :: r2 :: r3 :: r4 :: r5 :: r6 :: some (.ref p) :: ρ) S ⟨nx, rt, bk, ct, xc⟩ := ⟨p, ws, rfl, h1, h⟩
theorem s_gf8 {nx bk ct : Env → Sto → Prop} {rt : WK} {xc : XC} {r0 r1 r2 r3 r4 r5 r6 r7 : Option W} {p : Addr} {ws : List W} (h1 : S p = some (.lst ws)) (h : nx (r0 :: r1 :: r2 :: r3 :: r4 :: r5 :: r6 :: r7 :: some (.lst ws) :: ρ) (sdel S p)) : wps Φ (.gfrz 8) (r0 :: r1 :: r2 :: r3 :: r4 :: r5 :: r6 :: r7 :: some (.ref p) :: ρ) S ⟨nx, rt, bk, ct, xc⟩ := ⟨p, ws, rfl, h1, h⟩
theorem s_gf9 {nx bk ct : Env → Sto → Prop} {rt : WK} {xc : XC} {r0 r1 r2 r3 r4 r5 r6 r7 r8 : Option W} {p : Addr} {ws : List W} (h1 : S p = some (.lst ws)) (h : nx (r0 :: r1 :: r2 :: r3 :: r4 :: r5 :: r6 :: r7 :: r8 :: some (.lst ws) :: ρ) (sdel S p)) : wps Φ (.gfrz 9) (r0 :: r1 :: r2 :: r3 :: r4 :: r5 :: r6 :: r7 :: r8 :: some (.ref p) :: ρ) S ⟨nx, rt, bk, ct, xc⟩ := ⟨p, ws, rfl, h1, h⟩
theorem s_gf10 {nx bk ct : Env → Sto → Prop} {rt : WK} {xc : XC} {r0 r1 r2 r3 r4 r5 r6 r7 r8 r9 : Option W} {p : Addr} {ws : List W} (h1 : S p = some (.lst ws)) (h : nx (r0 :: r1 :: r2 :: r3 :: r4 :: r5 :: r6 :: r7 :: r8 :: r9 :: some (.lst ws) :: ρ) (sdel S p)) : wps Φ (.gfrz 10) (r0 :: r1 :: r2 :: r3 :: r4 :: r5 :: r6 :: r7 :: r8 :: r9 :: some (.ref p) :: ρ) S ⟨nx, rt, bk, ct, xc⟩ := ⟨p, ws, rfl, h1, h⟩
theorem s_gf11 {nx bk ct : Env → Sto → Prop} {rt : WK} {xc : XC} {r0 r1 r2 r3 r4 r5 r6 r7 r8 r9 r10 : Option W} {p : Addr} {ws : List W} (h1 : S p = some (.lst ws)) (h : nx (r0 :: r1 :: r2 :: r3 :: r4 :: r5 :: r6 :: r7 :: r8 :: r9 :: r10 :: some (.lst ws) :: ρ) (sdel S p)) : wps Φ (.gfrz 11) (r0 :: r1 :: r2 :: r3 :: r4 :: r5 :: r6 :: r7 :: r8 :: r9 :: r10 :: some (.ref p) :: ρ) S ⟨nx, rt, bk, ct, xc⟩ := ⟨p, ws, rfl, h1, h⟩
theorem s_gf12 {nx bk ct : Env → Sto → Prop} {rt : WK} {xc : XC} {r0 r1 r2 r3 r4 r5 r6 r7 r8 r9 r10 r11 : Option W} {p : Addr} {ws : List W} (h1 : S p = some (.lst ws)) (h : nx (r0 :: r1 :: r2 :: r3 :: r4 :: r5 :: r6 :: r7 :: r8 :: r9 :: r10 :: r11 :: some (.lst ws) :: ρ) (sdel S p)) : wps Φ (.gfrz 12) (r0 :: r1 :: r2 :: r3 :: r4 :: r5 :: r6 :: r7 :: r8 :: r9 :: r10 :: r11 :: some (.ref p) :: ρ) S ⟨nx, rt, bk, ct, xc⟩ := ⟨p, ws, rfl, h1, h⟩
theorem s_gf13 {nx bk ct : Env → Sto → Prop} {rt : WK} {xc : XC} {r0 r1 r2 r3 r4 r5 r6 r7 r8 r9 r10 r11 r12 : Option W} {p : Addr} {ws : List W} (h1 : S p = some (.lst ws)) (h : nx (r0 :: r1 :: r2 :: r3 :: r4 :: r5 :: r6 :: r7 :: r8 :: r9 :: r10 :: r11 :: r12 :: some (.lst ws) :: ρ) (sdel S p)) : wps Φ (.gfrz 13) (r0 :: r1 :: r2 :: r3 :: r4 :: r5 :: r6 :: r7 :: r8 :: r9 :: r10 :: r11 :: r12 :: some (.ref p) :: ρ) S ⟨nx, rt, bk, ct, xc⟩ := ⟨p, ws, rfl, h1, h⟩
theorem s_gf14 {nx bk ct : Env → Sto → Prop} {rt : WK} {xc : XC} {r0 r1 r2 r3 r4 r5 r6 r7 r8 r9 r10 r11 r12 r13 : Option W} {p : Addr} {ws : List W} (h1 : S p = some (.lst ws)) (h : nx (r0 :: r1 :: r2 :: r3 :: r4 :: r5 :: r6 :: r7 :: r8 :: r9 :: r10 :: r11 :: r12 :: r13 :: some (.lst ws) :: ρ) (sdel S p)) : wps Φ (.gfrz 14) (r0 :: r1 :: r2 :: r3 :: r4 :: r5 :: r6 :: r7 :: r8 :: r9 :: r10 :: r11 :: r12 :: r13 :: some (.ref p) :: ρ) S ⟨nx, rt, bk, ct, xc⟩ := ⟨p, ws, rfl, h1, h⟩
theorem s_gf15 {nx bk ct : Env → Sto → Prop} {rt : WK} {xc : XC} {r0 r1 r2 r3 r4 r5 r6 r7 r8 r9 r10 r11 r12 r13 r14 : Option W} {p : Addr} {ws : List W} (h1 : S p = some (.lst ws)) (h : nx (r0 :: r1 :: r2 :: r3 :: r4 :: r5 :: r6 :: r7 :: r8 :: r9 :: r10 :: r11 :: r12 :: r13 :: r14 :: some (.lst ws) :: ρ) (sdel S p)) : wps Φ (.gfrz 15) (r0 :: r1 :: r2 :: r3 :: r4 :: r5 :: r6 :: r7 :: r8 :: r9 :: r10 :: r11 :: r12 :: r13 :: r14 :: some (.ref p) :: ρ) S ⟨nx, rt, bk, ct, xc⟩ := ⟨p, ws, rfl, h1, h⟩
theorem s_gf16 {nx bk ct : Env → Sto → Prop} {rt : WK} {xc : XC} {r0 r1 r2 r3 r4 r5 r6 r7 r8 r9 r10 r11 r12 r13 r14 r15 : Option W} {p : Addr} {ws : List W} (h1 : S p = some (.lst ws)) (h : nx (r0 :: r1 :: r2 :: r3 :: r4 :: r5 :: r6 :: r7 :: r8 :: r9 :: r10 :: r11 :: r12 :: r13 :: r14 :: r15 :: some (.lst ws) :: ρ) (sdel S p)) : wps Φ (.gfrz 16) (r0 :: r1 :: r2 :: r3 :: r4 :: r5 :: r6 :: r7 :: r8 :: r9 :: r10 :: r11 :: r12 :: r13 :: r14 :: r15 :: some (.ref p) :: ρ) S ⟨nx, rt, bk, ct, xc⟩ := ⟨p, ws, rfl, h1, h⟩
theorem s_gf17 {nx bk ct : Env → Sto → Prop} {rt : WK} {xc : XC} {r0 r1 r2 r3 r4 r5 r6 r7 r8 r9 r10 r11 r12 r13 r14 r15 r16 : Option W} {p : Addr} {ws : List W} (h1 : S p = some (.lst ws)) (h : nx (r0 :: r1 :: r2 :: r3 :: r4 :: r5 :: r6 :: r7 :: r8 :: r9 :: r10 :: r11 :: r12 :: r13 :: r14 :: r15 :: r16 :: some (.lst ws) :: ρ) (sdel S p)) : wps Φ (.gfrz 17) (r0 :: r1 :: r2 :: r3 :: r4 :: r5 :: r6 :: r7 :: r8 :: r9 :: r10 :: r11 :: r12 :: r13 :: r14 :: r15 :: r16 :: some (.ref p) :: ρ) S ⟨nx, rt, bk, ct, xc⟩ := ⟨p, ws, rfl, h1, h⟩
theorem s_gf18 {nx bk ct : Env → Sto → Prop} {rt : WK} {xc : XC} {r0 r1 r2 r3 r4 r5 r6 r7 r8 r9 r10 r11 r12 r13 r14 r15 r16 r17 : Option W} {p : Addr} {ws : List W} (h1 : S p = some (.lst ws)) (h : nx (r0 :: r1 :: r2 :: r3 :: r4 :: r5 :: r6 :: r7 :: r8 :: r9 :: r10 :: r11 :: r12 :: r13 :: r14 :: r15 :: r16 :: r17 :: some (.lst ws) :: ρ) (sdel S p)) : wps Φ (.gfrz 18) (r0 :: r1 :: r2 :: r3 :: r4 :: r5 :: r6 :: r7 :: r8 :: r9 :: r10 :: r11 :: r12 :: r13 :: r14 :: r15 :: r16 :: r17 :: some (.ref p) :: ρ) S ⟨nx, rt, bk, ct, xc⟩ := ⟨p, ws, rfl, h1, h⟩
theorem s_gf19 {nx bk ct : Env → Sto → Prop} {rt : WK} {xc : XC} {r0 r1 r2 r3 r4 r5 r6 r7 r8 r9 r10 r11 r12 r13 r14 r15 r16 r17 r18 : Option W} {p : Addr} {ws : List W} (h1 : S p = some (.lst ws)) (h : nx (r0 :: r1 :: r2 :: r3 :: r4 :: r5 :: r6 :: r7 :: r8 :: r9 :: r10 :: r11 :: r12 :: r13 :: r14 :: r15 :: r16 :: r17 :: r18 :: some (.lst ws) :: ρ) (sdel S p)) : wps Φ (.gfrz 19) (r0 :: r1 :: r2 :: r3 :: r4 :: r5 :: r6 :: r7 :: r8 :: r9 :: r10 :: r11 :: r12 :: r13 :: r14 :: r15 :: r16 :: r17 :: r18 :: some (.ref p) :: ρ) S ⟨nx, rt, bk, ct, xc⟩ := ⟨p, ws, rfl, h1, h⟩
theorem e_lc' {live : Bool} {own : List (Str × Nat)} {ρ' : Env} {it t c : CE} (hw : wipeW ρ (own.map (·.2)) = ρ') (h : (wp Φ it).i ρ S (fun src items S1 =>
      wpLc src (wp Φ t).g (wp Φ c).c (fun ρ1 S2 Q1 => (wp Φ e).e ρ1 S2 Q1 XN) ρ' items [] S1 fun ws S2 => mkL live ws S2 Q) X) : (wp Φ (.lc live own t it c e)).e ρ S Q X := by
  subst hw; exact h
theorem u_i {a b : Int} {i : Nat} {sb : Bool} {P : Int → Prop} (q : P (augI sb a b)) : ∃ a' b', W.int a = .int a' ∧ W.int b = .int b' ∧ P (augI sb a' b') := ⟨a, b, rfl, rfl, q⟩
end
theorem sup_swap {S : Sto} {a p : Addr} {x y o : Ob} (h : p ≠ a) : sup (sup (sup S a x) p o) a y = sup (sup S a y) p o := by
  funext b
  unfold sup
  by_cases h1 : b = a
  · subst h1
    rw [if_pos rfl, if_neg h.symm, if_pos rfl]
  · rw [if_neg h1]
    by_cases h2 : b = p
    · rw [if_pos h2, if_pos h2]
    · rw [if_neg h2, if_neg h1, if_neg h2, if_neg h1]
theorem sup_id {S : Sto} {a : Addr} {o : Ob} (h : S a = some o) : sup S a o = S := by
  funext b
  unfold sup
  by_cases e : b = a
  · rw [if_pos e, e, h]
  · rw [if_neg e]
theorem sup_none {S : Sto} {a p : Addr} {o : Ob} (h : p ≠ a) (hs : S p = none) : sup S a o p = none := by rw [sup_ne h]; exact hs
theorem fewer_sup {S : Sto} {p : Addr} {o : Ob} (h : S p = none) : Fewer S (sup S p o) := fun b u e => by
  rw [sup_ne (fun z => by rw [z, h] at e; cases e)]
  exact e
theorem ref_and {R : Prop} {a : Addr} (q : R) : (∃ a', W.ref a = .ref a') ∧ R := ⟨⟨a, rfl⟩, q⟩
theorem u_set {x k : W} {sb : Bool} {a b : Int} {S : Sto} {Q : Sto → Prop} (q : setW x k (.int (augI sb a b)) S Q) : ∃ a' b', W.int a = .int a' ∧ W.int b = .int b' ∧ setW x k (.int (augI sb a' b')) S Q := ⟨a, b, rfl, rfl, q⟩
theorem ite_nd {p : Prop} [Decidable p] {A B : Prop} (h1 : ¬p → A) (h2 : p → B) : if (!decide p) = true then A else B := by
  by_cases h : p
  · rw [if_neg (by simp [h])]; exact h2 h
  · rw [if_pos (by simp [h])]; exact h1 h
theorem rdl_c {S : Sto} {p : Addr} {ws : List W} (h : S p = some (.lst ws)) : rdL S (.ref p) = some ws := by
  show (S p).bind obL = _
  rw [h]; rfl
theorem rdq_c {S : Sto} {p : Addr} {ws : List W} (h : S p = some (.lst ws)) : rdQ S (.ref p) = some ws := rdl_c h
theorem sup_comm {S : Sto} {a p : Addr} {y o : Ob} (h : p ≠ a) : sup (sup S p o) a y = sup (sup S a y) p o := by
  funext b
  unfold sup
  by_cases h1 : b = a
  · subst h1
    rw [if_pos rfl, if_neg h.symm, if_pos rfl]
  · rw [if_neg h1]
    by_cases h2 : b = p
    · rw [if_pos h2, if_pos h2]
    · rw [if_neg h2, if_neg h2, if_neg h1]
theorem sIx_nn {n d : Nat} {v : Int} (h : 0 ≤ v) : HT.sIx n d (some v) = min v.toNat n := by
  have := HT.sIx_nat n d v.toNat
  rwa [Int.toNat_of_nonneg h] at this
theorem ne_new {S : Sto} {a p : Addr} {o : Ob} (h : S a = some o) (hp : S p = none) : p ≠ a := fun e => by
  rw [e, h] at hp
  cases hp
theorem le_and {n : Nat} {R : Prop} (h : n ≤ sizeLine) (q : R) : n ≤ sizeLine ∧ R := ⟨h, q⟩
theorem pow_ok {i j : Int} (h0 : 0 ≤ j) (h1 : j ≤ 1000000) (h2 : i.natAbs < 2 ^ 64) : CPow i j := ⟨h0, h1, h2⟩
theorem cut_map {α : Type} (f : α → W) (zs : List α) (lo hi : Option Int) : cutW (zs.map f) lo hi = ((zs.drop (HT.sIx zs.length 0 lo)).take (HT.sIx zs.length zs.length hi - HT.sIx zs.length 0 lo)).map f := by
  unfold cutW
  rw [List.length_map, List.map_take, List.map_drop]
theorem cut_sub {w : W} {zs : List W} {lo hi : Option Int} (h : w ∈ cutW zs lo hi) : w ∈ zs := List.mem_of_mem_drop (List.mem_of_mem_take h)
theorem cut_len {zs : List W} {lo hi : Option Int} : (cutW zs lo hi).length ≤ zs.length := by
  unfold cutW
  rw [List.length_take, List.length_drop]
  omega
theorem bits {i : Int} {n : Nat} (h : -(2 ^ n : Int) < i ∧ i < 2 ^ n) (hn : 0 < n) : i.natAbs < 2 ^ n := by
  have e : ((2 ^ n : Nat) : Int) = (2 : Int) ^ n := by push_cast; rfl
  omega
/-- a product of numbers below 2^1000 -/
theorem mul_ok {i j : Int} (h1 : -(2 ^ 250 : Int) < i ∧ i < 2 ^ 250) (h2 : -(2 ^ 250 : Int) < j ∧ j < 2 ^ 250) : CMulW i j :=
  wide_mul (bits h1 (by decide)) (bits h2 (by decide)) (by decide) (by decide) (by decide)
theorem div_ok {i j : Int} (h0 : 0 < j) (h : j < 2 ^ 250) : CDivW i j := wide_div h0 (bits ⟨by omega, h⟩ (by decide)) (by decide) (by decide)
end MP

set_option Elab.async false
set_option linter.all false
set_option maxRecDepth 100000
set_option maxHeartbeats 4000000
/-! MP16: loops and comprehensions by invariants; equality of plain values. -/
namespace MP
open PySem PySem.Spec PyProof.Rows L2

/-! ### loops -/
theorem for_inv {src : Sto → Prop} {g : W → Env → Sto → (Env → Sto → Prop) → Prop} {b : WS} {items : List W} {ρ : Env} {S : Sto} {nx bk ct : Env → Sto → Prop} {rt : WK} {xc : XC} (I : Nat → Env → Sto → Prop) (h0 : I 0 ρ S) (hs : ∀ i ρ S, I i ρ S → src S)
    (step : ∀ i w ρ S, items[i]? = some w → I i ρ S → ∀ K : Env → Sto → Prop, (∀ ρ' S', I (i + 1) ρ' S' → K ρ' S') → g w ρ S fun ρ1 S1 => b ρ1 S1 ⟨K, rt, nx, K, xc⟩)
    (hd : ∀ ρ S, I items.length ρ S → nx ρ S) : wpFor src g b items ρ S ⟨nx, rt, bk, ct, xc⟩ := by
  have go : ∀ (m i : Nat) (ρ : Env) (S : Sto), i + m = items.length → I i ρ S → wpFor src g b (items.drop i) ρ S ⟨nx, rt, bk, ct, xc⟩ := by
    intro m
    induction m with
    | zero =>
      intro i ρ S hi h
      rw [List.drop_eq_nil_of_le (by omega)]
      have e : i = items.length := by omega
      subst e
      exact ⟨hs _ _ _ h, hd _ _ h⟩
    | succ m ih =>
      intro i ρ S hi h
      have hl : i < items.length := by omega
      rw [List.drop_eq_getElem_cons hl]
      exact ⟨hs _ _ _ h, step i _ ρ S (List.getElem?_eq_getElem hl) h _ fun ρ' S' h' => ih (i + 1) ρ' S' (by omega) h'⟩
  have := go items.length 0 ρ S (by omega) h0
  rwa [List.drop_zero] at this
/-- .. the items being codes of xs -/
theorem for_map {α : Type} {enc : α → W} {xs : List α} {src : Sto → Prop} {g : W → Env → Sto → (Env → Sto → Prop) → Prop} {b : WS} {ρ : Env} {S : Sto} {nx bk ct : Env → Sto → Prop} {rt : WK} {xc : XC} (I : Nat → Env → Sto → Prop) (h0 : I 0 ρ S) (hs : ∀ i ρ S, I i ρ S → src S)
    (step : ∀ i x ρ S, xs[i]? = some x → I i ρ S → ∀ K : Env → Sto → Prop, (∀ ρ' S', I (i + 1) ρ' S' → K ρ' S') → g (enc x) ρ S fun ρ1 S1 => b ρ1 S1 ⟨K, rt, nx, K, xc⟩)
    (hd : ∀ ρ S, I xs.length ρ S → nx ρ S) : wpFor src g b (xs.map enc) ρ S ⟨nx, rt, bk, ct, xc⟩ := by
  refine for_inv I h0 hs (fun i w ρ S hw h K hK => ?_) (fun ρ S h => hd ρ S (by rw [List.length_map] at h; exact h))
  rw [List.getElem?_map] at hw
  cases e : xs[i]? with
  | none => rw [e] at hw; cases hw
  | some x =>
    rw [e] at hw
    cases hw
    exact step i x ρ S e h K hK
theorem rng_map (lo : Int) (n : Nat) : rngW lo n = (List.range n).map fun (i : Nat) => W.int (lo + i) := rfl
/-- over a range -/
theorem for_rng {lo : Int} {n : Nat} {src : Sto → Prop} {g : W → Env → Sto → (Env → Sto → Prop) → Prop} {b : WS} {ρ : Env} {S : Sto} {nx bk ct : Env → Sto → Prop} {rt : WK} {xc : XC} (I : Nat → Env → Sto → Prop) (h0 : I 0 ρ S) (hs : ∀ i ρ S, I i ρ S → src S)
    (step : ∀ i ρ S, i < n → I i ρ S → ∀ K : Env → Sto → Prop, (∀ ρ' S', I (i + 1) ρ' S' → K ρ' S') → g (.int (lo + i)) ρ S fun ρ1 S1 => b ρ1 S1 ⟨K, rt, nx, K, xc⟩)
    (hd : ∀ ρ S, I n ρ S → nx ρ S) : wpFor src g b (rngW lo n) ρ S ⟨nx, rt, bk, ct, xc⟩ := by
  rw [rng_map]
  refine for_map I h0 hs (fun i x ρ S hx h K hK => ?_) (fun ρ S h => hd ρ S (by rw [List.length_range] at h; exact h))
  have hl : i < n := by
    have := (List.getElem?_eq_some_iff.mp hx).1
    rwa [List.length_range] at this
  rw [List.getElem?_range hl] at hx
  cases hx
  exact step i ρ S hl h K hK
theorem zip_map {α β : Type} (f : α → W) (h : β → W) : ∀ (xs : List α) (ys : List β), zipW (xs.map f) (ys.map h) = (xs.zip ys).map fun p => W.tup [f p.1, h p.2]
  | [], ys => by cases ys <;> rfl
  | x :: xs, [] => rfl
  | x :: xs, y :: ys => by
    show _ :: zipW (xs.map f) (ys.map h) = _
    rw [zip_map f h xs ys]
    rfl
theorem enm_map {α : Type} (f : α → W) : ∀ (xs : List α) (n : Nat), enmW n (xs.map f) = (xs.zipIdx n).map fun p => W.tup [.int (p.2 : Nat), f p.1]
  | [], n => rfl
  | x :: xs, n => by
    show _ :: enmW (n + 1) (xs.map f) = _
    rw [enm_map f xs (n + 1)]
    rfl
/-! ### comprehensions -/
section
variable {src : Sto → Prop} {g : W → Env → Sto → (Env → Sto → Prop) → Prop} {t : Env → Sto → (Bool → Sto → Prop) → Prop} {e : WE} {ρ : Env} {S : Sto} {Q : List W → Sto → Prop}
theorem lc_inv {items : List W} (I : Nat → List W → Sto → Prop) (h0 : I 0 [] S) (hs : ∀ i acc S, I i acc S → src S)
    (step : ∀ i w acc S, items[i]? = some w → I i acc S → ∀ K : List W → Sto → Prop, (∀ acc' S', I (i + 1) acc' S' → K acc' S') → g w ρ S fun ρ1 S1 => t ρ1 S1 fun b S2 =>
      if b = true then e ρ1 S2 (fun y S3 => acc.length < sizeLine ∧ K (acc ++ [y]) S3) XN else K acc S2)
    (hd : ∀ acc S, I items.length acc S → Q acc S) : wpLc src g t (fun ρ1 S2 Q1 => e ρ1 S2 Q1 XN) ρ items [] S Q := by
  have go : ∀ (m i : Nat) (acc : List W) (S : Sto), i + m = items.length → I i acc S → wpLc src g t (fun ρ1 S2 Q1 => e ρ1 S2 Q1 XN) ρ (items.drop i) acc S Q := by
    intro m
    induction m with
    | zero =>
      intro i acc S hi h
      rw [List.drop_eq_nil_of_le (by omega)]
      have e : i = items.length := by omega
      subst e
      exact ⟨hs _ _ _ h, hd _ _ h⟩
    | succ m ih =>
      intro i acc S hi h
      have hl : i < items.length := by omega
      rw [List.drop_eq_getElem_cons hl]
      exact ⟨hs _ _ _ h, step i _ acc S (List.getElem?_eq_getElem hl) h (fun acc' S' => wpLc src g t (fun ρ1 S2 Q1 => e ρ1 S2 Q1 XN) ρ (items.drop (i + 1)) acc' S' Q) fun acc' S' h' => ih (i + 1) acc' S' (by omega) h'⟩
  have := go items.length 0 [] S (by omega) h0
  rwa [List.drop_zero] at this
/-- the store stays; p: the condition, f: the element -/
theorem lc_fm {α : Type} {enc : α → W} {xs : List α} (p : α → Bool) (f : α → W) (hs : src S) (hl : xs.length ≤ sizeLine)
    (step : ∀ x, x ∈ xs → ∀ (K : WK) (K2 : Sto → Prop), (p x = true → K (f x) S) → (p x = false → K2 S) → g (enc x) ρ S fun ρ1 S1 => t ρ1 S1 fun b S2 => if b = true then e ρ1 S2 K XN else K2 S2)
    (hd : Q ((xs.filter p).map f) S) : wpLc src g t (fun ρ1 S2 Q1 => e ρ1 S2 Q1 XN) ρ (xs.map enc) [] S Q := by
  refine lc_inv (fun i acc S1 => S1 = S ∧ acc = ((xs.take i).filter p).map f) ⟨rfl, rfl⟩ (fun i acc S1 h => h.1 ▸ hs) (fun i w acc S1 hw h K hK => ?_) (fun acc S1 h => ?_)
  · obtain ⟨rfl, rfl⟩ := h
    rw [List.getElem?_map] at hw
    cases ex : xs[i]? with
    | none => rw [ex] at hw; cases hw
    | some x =>
      rw [ex] at hw
      cases hw
      have hi : i < xs.length := (List.getElem?_eq_some_iff.mp ex).1
      refine step x (List.mem_of_getElem? ex) (fun y S3 => (((xs.take i).filter p).map f).length < sizeLine ∧ K (((xs.take i).filter p).map f ++ [y]) S3) (fun S2 => K (((xs.take i).filter p).map f) S2) (fun hp => ⟨?_, hK _ _ ⟨rfl, ?_⟩⟩) (fun hp => hK _ _ ⟨rfl, ?_⟩)
      · rw [List.length_map]
        have h1 := List.length_filter_le p (xs.take i)
        rw [List.length_take] at h1
        omega
      · rw [List.take_add_one, ex, List.filter_append, List.map_append]
        simp [hp]
      · rw [List.take_add_one, ex, List.filter_append, List.map_append]
        simp [hp]
  · obtain ⟨rfl, rfl⟩ := h
    rw [List.length_map, List.take_length]
    exact hd
/-- no condition -/
theorem lc_mp {α : Type} {enc : α → W} {xs : List α} {Φ : Nat → Spec} (f : α → W) (hs : src S) (hl : xs.length ≤ sizeLine)
    (step : ∀ x, x ∈ xs → ∀ (K : WK), K (f x) S → g (enc x) ρ S fun ρ1 S1 => e ρ1 S1 K XN)
    (hd : Q (xs.map f) S) : wpLc src g (wp Φ .nil).c (fun ρ1 S2 Q1 => e ρ1 S2 Q1 XN) ρ (xs.map enc) [] S Q := by
  refine lc_fm (fun _ => true) f hs hl (fun x hx K K2 h1 _ => ?_) (by rw [List.filter_eq_self.mpr (fun _ _ => rfl)]; exact hd)
  exact step x hx K (h1 rfl)
end
/-! ### equality -/
inductive Pln : Nat → W → Prop
  | non (n : Nat) : Pln n .non
  | int (n : Nat) (i : Int) : Pln n (.int i)
  | str (n : Nat) (x : Str) : (PyData.str x).canLay0 = true → Pln n (.str x)
  | tup (n : Nat) (ws : List W) : (∀ w ∈ ws, Pln n w) → Pln (n + 1) (.tup ws)
  | lst (n : Nat) (ws : List W) : (∀ w ∈ ws, Pln n w) → Pln (n + 1) (.lst ws)
theorem VwL.of {S : Sto} : ∀ {ws : List W}, (∀ w ∈ ws, Vw S w (datW w)) → VwL S ws (datL ws)
  | [], _ => .nil
  | w :: ws, h => .cons (h w (by simp)) (VwL.of fun u hu => h u (by simp [hu]))
theorem Pln.vw {S : Sto} {n : Nat} {w : W} (h : Pln n w) : Vw S w (datW w) := by
  induction h with
  | non => exact .non
  | int => exact .int _
  | str => exact .str _
  | tup n ws _ ih => exact .tup (VwL.of ih)
  | lst n ws _ ih => exact .lst (VwL.of ih)
theorem can_all : ∀ {ws : List W}, (∀ w ∈ ws, (datW w).canLay0 = true) → PyData.canLayAll0 (datL ws) = true
  | [], _ => rfl
  | w :: ws, h => by
    show ((datW w).canLay0 && PyData.canLayAll0 (datL ws)) = true
    rw [h w (by simp), can_all fun u hu => h u (by simp [hu])]
    rfl
theorem Pln.can {n : Nat} {w : W} (h : Pln n w) : (datW w).canLay0 = true := by
  induction h with
  | non => rfl
  | int => rfl
  | str n x h => exact h
  | tup n ws _ ih => exact can_all ih
  | lst n ws _ ih => exact can_all ih
theorem dep_all {n : Nat} : ∀ {ws : List W}, (∀ w ∈ ws, (datW w).depth ≤ n) → PyData.depthAll (datL ws) ≤ n
  | [], _ => Nat.zero_le _
  | w :: ws, h => by
    show max (datW w).depth (PyData.depthAll (datL ws)) ≤ n
    have h1 := h w (by simp)
    have h2 := dep_all (ws := ws) fun u hu => h u (by simp [hu])
    omega
theorem Pln.dep {n : Nat} {w : W} (h : Pln n w) : (datW w).depth ≤ n := by
  induction h with
  | non => exact Nat.zero_le _
  | int => exact Nat.zero_le _
  | str n x h => exact Nat.zero_le _
  | tup n ws _ ih => exact Nat.succ_le_succ (dep_all ih)
  | lst n ws _ ih => exact Nat.succ_le_succ (dep_all ih)
theorem Pln.shaped {n : Nat} {w : W} (h : Pln n w) (hn : n ≤ 64) : SeqAt.shaped (datW w) = true := by
  show ((datW w).canLay0 && decide ((datW w).depth ≤ 64)) = true
  rw [h.can, decide_eq_true (Nat.le_trans h.dep hn)]
  rfl
theorem eqv_all : ∀ {xs ys : List W}, (∀ x ∈ xs, ∀ y ∈ ys, (PyData.eqv (datW x) (datW y) = true ↔ x = y)) → (PyData.eqvAll (datL xs) (datL ys) = true ↔ xs = ys)
  | [], [], _ => ⟨fun _ => rfl, fun _ => rfl⟩
  | [], y :: ys, _ => ⟨fun h => (by cases h), fun h => (by cases h)⟩
  | x :: xs, [], _ => ⟨fun h => (by cases h), fun h => (by cases h)⟩
  | x :: xs, y :: ys, h => by
    show (PyData.eqv (datW x) (datW y) && PyData.eqvAll (datL xs) (datL ys)) = true ↔ _
    rw [Bool.and_eq_true, h x (by simp) y (by simp), eqv_all (xs := xs) (ys := ys) fun u hu v hv => h u (by simp [hu]) v (by simp [hv])]
    constructor
    · rintro ⟨rfl, rfl⟩; rfl
    · intro z; cases z; exact ⟨rfl, rfl⟩
theorem Pln.eqv {n : Nat} {x : W} (hx : Pln n x) : ∀ {m : Nat} {y : W}, Pln m y → (PyData.eqv (datW x) (datW y) = true ↔ x = y) := by
  induction hx with
  | non => intro m y hy; cases hy <;> exact ⟨fun h => (by cases h; try rfl), fun h => (by cases h; try rfl)⟩
  | int n i =>
    intro m y hy
    cases hy with
    | int m j =>
      show ((i == j) = true) ↔ _
      rw [beq_iff_eq]
      exact ⟨fun h => by rw [h], fun h => by cases h; rfl⟩
    | _ => exact ⟨fun h => (by cases h), fun h => (by cases h)⟩
  | str n a ha =>
    intro m y hy
    cases hy with
    | str m b =>
      show ((a == b) = true) ↔ _
      rw [beq_iff_eq]
      exact ⟨fun h => by rw [h], fun h => by cases h; rfl⟩
    | _ => exact ⟨fun h => (by cases h), fun h => (by cases h)⟩
  | tup n ws h1 ih =>
    intro m y hy
    cases hy with
    | tup m us h2 =>
      have := eqv_all (xs := ws) (ys := us) fun u hu v hv => ih u hu (h2 v hv)
      show (PyData.eqvAll (datL ws) (datL us) = true) ↔ _
      rw [this]
      exact ⟨fun h => by rw [h], fun h => by cases h; rfl⟩
    | _ => exact ⟨fun h => (by cases h), fun h => (by cases h)⟩
  | lst n ws h1 ih =>
    intro m y hy
    cases hy with
    | lst m us h2 =>
      have := eqv_all (xs := ws) (ys := us) fun u hu v hv => ih u hu (h2 v hv)
      show (PyData.eqvAll (datL ws) (datL us) = true) ↔ _
      rw [this]
      exact ⟨fun h => by rw [h], fun h => by cases h; rfl⟩
    | _ => exact ⟨fun h => (by cases h), fun h => (by cases h)⟩
section
variable {n m : Nat} {x y : W} {S : Sto} {Q : Bool → Prop} {a : Addr} {ws : List W}
theorem eq_p (hx : Pln n x) (hy : Pln m y) (q : ∀ b : Bool, (b = true ↔ x = y) → Q b) (hn : n ≤ 64 := by decide) (hm : m ≤ 64 := by decide) : cmpW .Eq x y S Q := by
  have h : eqWk x y S Q := ⟨_, _, hx.vw, hy.vw, hx.shaped hn, hy.shaped hm, q _ (hx.eqv hy)⟩
  cases x <;> cases y <;> exact h
theorem ne_p (hx : Pln n x) (hy : Pln m y) (q : ∀ b : Bool, (b = true ↔ x ≠ y) → Q b) (hn : n ≤ 64 := by decide) (hm : m ≤ 64 := by decide) : cmpW .NotEq x y S Q := by
  have h : eqWk x y S fun b => Q !b := ⟨_, _, hx.vw, hy.vw, hx.shaped hn, hy.shaped hm, q _ (by
    have := hx.eqv hy
    rw [Bool.not_eq_true', ← Bool.not_eq_true, this])⟩
  cases x <;> cases y <;> exact h
/-- the left one a live list -/
theorem eq_r (ha : S a = some (.lst ws)) (hx : Pln n (.lst ws)) (hy : Pln m y) (q : ∀ b : Bool, (b = true ↔ W.lst ws = y) → Q b) (hn : n ≤ 64 := by decide) (hm : m ≤ 64 := by decide) : cmpW .Eq (.ref a) y S Q := by
  have h : eqWk (.ref a) y S Q := ⟨datW (.lst ws), _, .ref (by rw [ha]; rfl) (by cases (hx.vw (S := S)) with | lst h => exact h), hy.vw, hx.shaped hn, hy.shaped hm, q _ (hx.eqv hy)⟩
  cases y <;> exact h
end
theorem pln_map {α : Type} {f : α → W} {xs : List α} {n : Nat} (h : ∀ x ∈ xs, Pln n (f x)) : Pln (n + 1) (.lst (xs.map f)) := .lst n _ fun w hw => by
  obtain ⟨x, hx, rfl⟩ := List.mem_map.mp hw
  exact h x hx
section
variable {S : Sto} {Q : Bool → Prop} {x : W} {a : Addr}
theorem eq_i {i j : Int} (q : Q (decide (i = j))) : cmpW .Eq (.int i) (.int j) S Q := eq_p (.int 0 i) (.int 0 j) fun b hb => by
  have : b = decide (i = j) := by
    rw [Bool.eq_iff_iff, hb, decide_eq_true_iff]
    exact ⟨fun h => by cases h; rfl, fun h => by rw [h]⟩
  rw [this]; exact q
theorem ne_i {i j : Int} (q : Q (decide (i ≠ j))) : cmpW .NotEq (.int i) (.int j) S Q := ne_p (.int 0 i) (.int 0 j) fun b hb => by
  have : b = decide (i ≠ j) := by
    rw [Bool.eq_iff_iff, hb, decide_eq_true_iff]
    exact ⟨fun h e => h (by rw [e]), fun h e => h (by cases e; rfl)⟩
  rw [this]; exact q
theorem eq_b {i j : Bool} (q : Q (i == j)) : cmpW .Eq (.bl i) (.bl j) S Q := ⟨_, _, .bl i, .bl j, rfl, rfl, q⟩
theorem ne_b {i j : Bool} (q : Q (i != j)) : cmpW .NotEq (.bl i) (.bl j) S Q := ⟨_, _, .bl i, .bl j, rfl, rfl, q⟩
theorem is_b {i j : Bool} (q : Q (decide (i = j))) : cmpW .Is (.bl i) (.bl j) S Q := ⟨_, rfl, q⟩
theorem isn_b {i j : Bool} (q : Q (!decide (i = j))) : cmpW .IsNot (.bl i) (.bl j) S Q := ⟨_, rfl, q⟩
theorem is_n (q : Q (isN x)) : cmpW .Is x .non S Q := ⟨_, (by cases x <;> rfl), q⟩
theorem isn_n (q : Q (!isN x)) : cmpW .IsNot x .non S Q := ⟨_, (by cases x <;> rfl), q⟩
theorem rd_k {kvs : List (Key × W)} {k : Key} (h : S a = some (.dk kvs)) (hk : keyW x = some k) : rdD S (.ref a) x = some (getK kvs k) := by
  show (S a).bind _ = _
  rw [h]
  show (keyW x).map _ = _
  rw [hk]
  rfl
theorem in_dk {kvs : List (Key × W)} {k : Key} (h : S a = some (.dk kvs)) (hk : keyW x = some k) (q : Q (getK kvs k).isSome) : cmpW .In x (.ref a) S Q := by
  have e := rd_k h hk
  cases x with
  | int i => exact .inr (.inl ⟨_, e, q⟩)
  | str z => exact .inr (.inl ⟨_, e, q⟩)
  | _ => cases hk
theorem notin_dk {kvs : List (Key × W)} {k : Key} (h : S a = some (.dk kvs)) (hk : keyW x = some k) (q : Q !(getK kvs k).isSome) : cmpW .NotIn x (.ref a) S Q := by
  have e := rd_k h hk
  cases x with
  | int i => exact .inr (.inl ⟨_, e, q⟩)
  | str z => exact .inr (.inl ⟨_, e, q⟩)
  | _ => cases hk
end
theorem atI_mem {zs : List W} {i : Int} (h0 : 0 ≤ i) (h : i < zs.length) : ∃ w, atI zs i = some w ∧ w ∈ zs := by
  have hl : i.toNat < zs.length := by omega
  exact ⟨_, atI_int h0 (List.getElem?_eq_getElem hl), List.getElem_mem hl⟩
theorem ix_any {ws : List W} {i : Int} {S : Sto} {Q : WK} (h0 : 0 ≤ i) (h : i < ws.length) (q : ∀ w ∈ ws, Q w S) : idxW (.lst ws) (.int i) S Q := by
  obtain ⟨w, h1, h2⟩ := atI_mem h0 h
  exact ix_l h1 (q w h2)
/-- an index of coded items -/
theorem ix_map {α : Type} {enc : α → W} {xs : List α} {i : Int} {x : α} {S : Sto} {Q : WK} (h0 : 0 ≤ i) (h : xs[i.toNat]? = some x) (q : Q (enc x) S) : idxW (.lst (xs.map enc)) (.int i) S Q :=
  ix_l (atI_int h0 (by rw [List.getElem?_map, h]; rfl)) q
theorem ix_mapc {α : Type} {enc : α → W} {xs : List α} {i : Int} {x : α} {a : Addr} {S : Sto} {Q : WK} (ha : S a = some (.lst (xs.map enc))) (h0 : 0 ≤ i) (h : xs[i.toNat]? = some x) (q : Q (enc x) S) : idxW (.ref a) (.int i) S Q :=
  ix_c ha (atI_int h0 (by rw [List.getElem?_map, h]; rfl)) q
theorem st_map {α : Type} {enc : α → W} {xs : List α} {i : Int} {x : α} {v : W} {a : Addr} {S : Sto} {Q : Sto → Prop} (ha : S a = some (.lst (xs.map enc))) (hv : v = enc x) (h0 : 0 ≤ i) (h : i < xs.length) (q : Q (sup S a (.lst ((xs.set i.toNat x).map enc)))) : setW (.ref a) (.int i) v S Q :=
  st_l (j := i.toNat) ha (ixN_int h0 (by rw [List.length_map]; exact h)) (by rw [hv, ← List.map_set]; exact q)
end MP

set_option Elab.async false
set_option linter.all false
set_option maxRecDepth 100000
set_option maxHeartbeats 4000000
/-! MP17: more short steps: lists by what they read as. -/
namespace MP
open PySem PySem.Spec PyProof.Rows L2
section
variable {S : Sto} {x : W} {zs : List W} {p : Addr} {o : Ob}
theorem ix_rl {i : Int} {w : W} {Q : WK} (h : rdL S x = some zs) (hw : atI zs i = some w) (q : Q w S) : idxW x (.int i) S Q := by
  cases x with
  | lst ws => cases h; exact ⟨w, hw, q⟩
  | ref a => exact .inl ⟨zs, i, w, h, rfl, hw, q⟩
  | _ => cases h
theorem ix_rm {α : Type} {enc : α → W} {xs : List α} {i : Int} {y : α} {Q : WK} (h : rdL S x = some (xs.map enc)) (h0 : 0 ≤ i) (hy : xs[i.toNat]? = some y) (q : Q (enc y) S) : idxW x (.int i) S Q :=
  ix_rl h (atI_int h0 (by rw [List.getElem?_map, hy]; rfl)) q
theorem rdl_new (h : rdL S x = some zs) (hp : S p = none) : rdL (sup S p o) x = some zs := by
  cases x with
  | ref a =>
    have : a ≠ p := fun e => by
      subst e
      have h : (S a).bind obL = some zs := h
      rw [hp] at h; cases h
    show (sup S p o a).bind obL = _
    rw [sup_ne this]; exact h
  | lst ws => exact h
  | _ => cases h
theorem rdl_put (h : rdL S x = some zs) (hp : x ≠ .ref p) : rdL (sup S p o) x = some zs := by
  cases x with
  | ref a =>
    have : a ≠ p := fun e => hp (by rw [e])
    show (sup S p o a).bind obL = _
    rw [sup_ne this]; exact h
  | lst ws => exact h
  | _ => cases h
theorem rdi_l (h : rdL S x = some zs) : rdI S x = some zs := by
  cases x with
  | ref a => exact h
  | lst ws => exact h
  | _ => cases h
theorem rdq_l (h : rdL S x = some zs) : rdQ S x = some zs := by
  cases x with
  | ref a => exact h
  | lst ws => exact h
  | _ => cases h
theorem ref_ne_new (h : rdL S x = some zs) (hp : S p = none) : x ≠ .ref p := fun e => by
  subst e
  have h : (S p).bind obL = some zs := h
  rw [hp] at h; cases h
end
theorem le_line {n : Nat} (h : n ≤ 10000) : n ≤ sizeLine := Nat.le_trans h (by decide)
theorem lt_line {n : Nat} (h : n ≤ 10000) : n < sizeLine := Nat.lt_of_le_of_lt h (by decide)
theorem len_ok {x : W} {zs : List W} {S : Sto} {Q : WK} {live : Bool} (h : rdL S x = some zs) (q : Q (.int zs.length) S) : bltW live .len [x] S Q := by
  cases x with
  | ref a => exact .inl ⟨zs, h, q⟩
  | lst ws => exact .inl ⟨zs, h, q⟩
  | _ => cases h
theorem ng {i : Int} {P : Int → Prop} (h : P i) : ∃ i', W.int i = .int i' ∧ P i' := ⟨i, rfl, h⟩
section
variable {S : Sto} {P : Bool → Prop}
theorem tq_bl {b : Bool} (h : P b) : ∃ b', truW S (.bl b) = some b' ∧ P b' := ⟨_, rfl, h⟩
theorem tq_int {i : Int} (h : P (i != 0)) : ∃ b', truW S (.int i) = some b' ∧ P b' := ⟨_, rfl, h⟩
theorem tq_non (h : P false) : ∃ b', truW S .non = some b' ∧ P b' := ⟨_, rfl, h⟩
theorem tq_lst {ws : List W} (h : P (!ws.isEmpty)) : ∃ b', truW S (.lst ws) = some b' ∧ P b' := ⟨_, rfl, h⟩
theorem tq_tup {ws : List W} (h : P (!ws.isEmpty)) : ∃ b', truW S (.tup ws) = some b' ∧ P b' := ⟨_, rfl, h⟩
end
section
variable {α β : Type} {enc : α → W} {enc2 : β → W} {xs : List α} {ys : List β} {src : Sto → Prop} {g : W → Env → Sto → (Env → Sto → Prop) → Prop} {b : WS} {ρ : Env} {S : Sto} {nx bk ct : Env → Sto → Prop} {rt : WK} {xc : XC}
/-- over enumerate -/
theorem for_enm (I : Nat → Env → Sto → Prop) (h0 : I 0 ρ S) (hs : ∀ i ρ S, I i ρ S → src S)
    (step : ∀ i x ρ S, xs[i]? = some x → I i ρ S → ∀ K : Env → Sto → Prop, (∀ ρ' S', I (i + 1) ρ' S' → K ρ' S') → g (.tup [.int (i : Nat), enc x]) ρ S fun ρ1 S1 => b ρ1 S1 ⟨K, rt, nx, K, xc⟩)
    (hd : ∀ ρ S, I xs.length ρ S → nx ρ S) : wpFor src g b (enmW 0 (xs.map enc)) ρ S ⟨nx, rt, bk, ct, xc⟩ := by
  rw [enm_map]
  refine for_map I h0 hs (fun i x ρ S hx h K hK => ?_) (fun ρ S h => hd ρ S (by rw [List.length_zipIdx] at h; exact h))
  rw [List.getElem?_zipIdx] at hx
  cases ex : xs[i]? with
  | none => rw [ex] at hx; cases hx
  | some a =>
    rw [ex] at hx
    have e : (a, 0 + i) = x := by simpa using hx
    subst e
    have := step i a ρ S ex h K hK
    rw [Nat.zero_add]
    exact this
/-- over zip -/
theorem for_zip (I : Nat → Env → Sto → Prop) (h0 : I 0 ρ S) (hs : ∀ i ρ S, I i ρ S → src S)
    (step : ∀ i x y ρ S, xs[i]? = some x → ys[i]? = some y → I i ρ S → ∀ K : Env → Sto → Prop, (∀ ρ' S', I (i + 1) ρ' S' → K ρ' S') → g (.tup [enc x, enc2 y]) ρ S fun ρ1 S1 => b ρ1 S1 ⟨K, rt, nx, K, xc⟩)
    (hd : ∀ ρ S, I (min xs.length ys.length) ρ S → nx ρ S) : wpFor src g b (zipW (xs.map enc) (ys.map enc2)) ρ S ⟨nx, rt, bk, ct, xc⟩ := by
  rw [zip_map]
  refine for_map I h0 hs (fun i x ρ S hx h K hK => ?_) (fun ρ S h => hd ρ S (by rw [List.length_zip] at h; exact h))
  obtain ⟨a, c⟩ := x
  rw [List.getElem?_zip_eq_some] at hx
  exact step i a c ρ S hx.1 hx.2 h K hK
end
end MP
namespace MP
open PySem PySem.Spec PyProof.Rows L2
theorem ne_r {n m : Nat} {y : W} {S : Sto} {Q : Bool → Prop} {a : Addr} {ws : List W} (ha : S a = some (.lst ws)) (hx : Pln n (.lst ws)) (hy : Pln m y) (q : ∀ b : Bool, (b = true ↔ W.lst ws ≠ y) → Q b) (hn : n ≤ 64 := by decide) (hm : m ≤ 64 := by decide) : cmpW .NotEq (.ref a) y S Q := by
  have h : eqWk (.ref a) y S fun b => Q !b := ⟨datW (.lst ws), _, .ref (by rw [ha]; rfl) (by cases (hx.vw (S := S)) with | lst h => exact h), hy.vw, hx.shaped hn, hy.shaped hm, q _ (by
    have := hx.eqv hy
    rw [Bool.not_eq_true', ← Bool.not_eq_true, this])⟩
  cases y <;> exact h
/-- equality by what is read -/
theorem eq_vw {n m : Nat} {x y u w : W} {S : Sto} {Q : Bool → Prop} (hx : Vw S x (datW u)) (hy : Vw S y (datW w)) (hu : Pln n u) (hw : Pln m w) (q : ∀ b : Bool, (b = true ↔ u = w) → Q b) (hn : n ≤ 64 := by decide) (hm : m ≤ 64 := by decide) : cmpW .Eq x y S Q := by
  have h : eqWk x y S Q := ⟨_, _, hx, hy, hu.shaped hn, hw.shaped hm, q _ (hu.eqv hw)⟩
  cases x <;> cases y <;> exact h
theorem ne_vw {n m : Nat} {x y u w : W} {S : Sto} {Q : Bool → Prop} (hx : Vw S x (datW u)) (hy : Vw S y (datW w)) (hu : Pln n u) (hw : Pln m w) (q : ∀ b : Bool, (b = true ↔ u ≠ w) → Q b) (hn : n ≤ 64 := by decide) (hm : m ≤ 64 := by decide) : cmpW .NotEq x y S Q := by
  have h : eqWk x y S fun b => Q !b := ⟨_, _, hx, hy, hu.shaped hn, hw.shaped hm, q _ (by
    have := hu.eqv hw
    rw [Bool.not_eq_true', ← Bool.not_eq_true, this])⟩
  cases x <;> cases y <;> exact h
theorem vw_cell {n : Nat} {S : Sto} {a : Addr} {ws : List W} (ha : S a = some (.lst ws)) (h : Pln n (.lst ws)) : Vw S (.ref a) (datW (.lst ws)) :=
  .ref (by rw [ha]; rfl) (by cases (h.vw (S := S)) with | lst h => exact h)
theorem b_of {b : Bool} {p : Prop} [Decidable p] (h : b = true ↔ p) : b = decide p := by
  rw [Bool.eq_iff_iff, h, decide_eq_true_iff]
theorem b_t {b : Bool} {p : Prop} (h : b = true ↔ p) (hp : p) : b = true := h.mpr hp
theorem b_f {b : Bool} {p : Prop} (h : b = true ↔ p) (hp : ¬ p) : b = false := by
  cases b with
  | false => rfl
  | true => exact absurd (h.mp rfl) hp
end MP
namespace MP
theorem iteF' {c : Bool} {A B : Prop} (hc : c = false) (h : B) : if c = true then A else B := by rw [hc]; exact h
theorem iteT' {c : Bool} {A B : Prop} (hc : c = true) (h : A) : if c = true then A else B := by rw [hc]; exact h
end MP

set_option Elab.async false
set_option linter.all false
set_option maxRecDepth 100000
set_option maxHeartbeats 4000000
/-! MP18: short steps for what came last: list(zip), slices by a step, sorted(set), dict(pairs), index, two lists frozen. -/
namespace MP
open PySem PySem.Spec PyProof.Rows L2
section
variable {Φ : Nat → Spec} {ρ : Env} {S : Sto} {Q : WK} {X : XC} {a b : CE} {live : Bool} {x y : W}
theorem e_lzip (h : (wp Φ a).e ρ S (fun x S1 => (wp Φ b).e ρ S1 (fun y S2 => ∃ xs ys, rdL S2 x = some xs ∧ rdL S2 y = some ys ∧ mkL live (zipW xs ys) S2 Q) X) X) : (wp Φ (.lzip live a b)).e ρ S Q X := h
theorem e_stp (h : (wp Φ a).e ρ S (fun x S1 => (wp Φ b).e ρ S1 (fun y S2 => ∃ ws k, rdL S2 x = some ws ∧ y = .int k ∧ ((k = 1 ∧ mkL live ws S2 Q) ∨ (k = -1 ∧ mkL live ws.reverse S2 Q))) X) X) : (wp Φ (.stp live a b)).e ρ S Q X := h
theorem e_sset (h : (wp Φ a).e ρ S (fun x S1 => ∃ ws ks, rdL S1 x = some ws ∧ pairsW ws = some ks ∧ ks.length < 64 ∧ (∀ p ∈ ks, (0 ≤ p.1 ∧ p.1 < 64) ∧ (0 ≤ p.2 ∧ p.2 < 64)) ∧
      ∀ ks' : List (Int × Int), ks'.Pairwise lexP → (∀ p, p ∈ ks' ↔ p ∈ ks) → mkL live (ks'.map pairW) S1 Q) X) : (wp Φ (.sset live a)).e ρ S Q X := h
theorem b_mulS0 {z : Str} {k : Int} (hk : k = 0) (q : Q (.str Str.empty) S) : bopW live .mul (.str z) (.int k) S Q := .inl ⟨hk, q⟩
theorem b_mulS1 {z : Str} {k : Int} (hk : k = 1) (q : Q (.str z) S) : bopW live .mul (.str z) (.int k) S Q := .inr (.inl ⟨hk, q⟩)
theorem b_mulS2 {z : Str} {k : Int} (hk : k = 2) (h0 : 0 < z.length) (h1 : z.length ≤ 1000) (q : Q (.str (z ++ z)) S) : bopW live .mul (.str z) (.int k) S Q := .inr (.inr ⟨hk, h0, h1, q⟩)
/-- unpacking a list -/
theorem g_lst {t : CE} {w : W} {ws : List W} {Q : Env → Sto → Prop} (hw : rdL S w = some ws) (hl : ws.length = cntC t) (h : (wp Φ t).gs ws ρ S Q) : (wp Φ (.ttup t)).g w ρ S Q := ⟨ws, rdq_l hw, hl, h⟩
theorem rc_l {R : Prop} {m : Mth} {ws : List W} (hm : m.T = "list" := by rfl) (q : R) : rcvW m (.lst ws) S ∧ R := by
  refine ⟨?_, q⟩
  unfold rcvW
  rw [hm]
  exact trivial
theorem m_index {ws : List W} {d : PyData} {ds : List PyData} {j : Nat} {z : PyData} (hx : rdL S x = some ws) (hv : VwL S ws ds) (hd : Vw S y d) (s1 : SeqAt.shaped (.list ds) = true) (s2 : SeqAt.shaped d = true) (hz : ds[j]? = some z) (e : PyData.eqv z d = true)
    (hno : ∀ (m : Nat) (z' : PyData), m < j → ds[m]? = some z' → PyData.eqv z' d = false) (q : Q (.int (j : Nat)) S) : mthW .index x [y] S Q := by
  cases x <;> first | (cases hx; done) | exact ⟨ws, d, ds, j, z, hx, hv, hd, s1, s2, hz, e, hno, q⟩
/-- .. of plain values that are all unlike -/
theorem m_indexP {ws : List W} {n : Nat} {j : Nat} (hx : rdL S x = some ws) (hp : ∀ w ∈ ws, Pln n w) (hn : n ≤ 60) (hj : ws[j]? = some y) (nd : ws.Nodup) (q : Q (.int (j : Nat)) S) : mthW .index x [y] S Q := by
  have hy := hp y (List.mem_of_getElem? hj)
  have dat : ∀ {us : List W} {i : Nat}, (datL us)[i]? = (us[i]?).map datW := by
    intro us
    induction us with
    | nil => intro i; simp [datL]
    | cons u us ih =>
      intro i
      cases i with
      | zero => rfl
      | succ i => exact ih
  have sh : Pln (n + 1) (.lst ws) := .lst n ws hp
  refine m_index (ds := datL ws) (d := datW y) (z := datW y) hx (VwL.of fun w hw => (hp w hw).vw) hy.vw (sh.shaped (by omega)) (hy.shaped (by omega)) (by rw [dat, hj]; rfl) ((hy.eqv hy).mpr rfl) (fun m z' hm hz => ?_) q
  rw [dat] at hz
  cases e : ws[m]? with
  | none => rw [e] at hz; cases hz
  | some u =>
    rw [e] at hz
    cases hz
    have hu := hp u (List.mem_of_getElem? e)
    refine b_f (hu.eqv hy) fun z => ?_
    subst z
    have h1 := (List.getElem?_eq_some_iff.mp e)
    have h2 := (List.getElem?_eq_some_iff.mp hj)
    exact List.pairwise_iff_getElem.mp nd m j h1.1 h2.1 hm (h1.2.trans h2.2.symm)
theorem l_dictK {ws : List W} {kvs : List (Key × W)} (h : rdL S x = some ws) (hp : prK ws = some kvs) (q : ∀ p, S p = none → Q (.ref p) (sup S p (.dk (putsW [] kvs)))) : bltW live .dictK [x] S Q := ⟨ws, kvs, h, hp, q⟩
theorem l_dictT {ws : List W} {kvs : List (List Key × W)} (h : rdL S x = some ws) (hp : prT ws = some kvs) (q : ∀ p, S p = none → Q (.ref p) (sup S p (.dt (putsW [] kvs)))) : bltW live .dictT [x] S Q := ⟨ws, kvs, h, hp, q⟩
theorem l_listK {p : Addr} {kvs : List (Key × W)} (h : S p = some (.dk kvs)) (q : mkL live (kvs.map fun kv => wKey kv.1) S Q) : bltW live .listK [.ref p] S Q := ⟨p, kvs, rfl, h, q⟩
theorem pairs_ok : ∀ ks : List (Int × Int), pairsW (ks.map pairW) = some ks
  | [] => rfl
  | p :: ks => by
    show (pairsW (ks.map pairW)).map _ = _
    rw [pairs_ok ks]
    rfl
/-- strictly in order: the members tell the list -/
theorem lex_eq : ∀ {xs ys : List (Int × Int)}, xs.Pairwise lexP → ys.Pairwise lexP → (∀ p, p ∈ xs ↔ p ∈ ys) → xs = ys
  | [], [], _, _, _ => rfl
  | [], y :: ys, _, _, h => absurd ((h y).mpr (List.mem_cons_self ..)) (by simp)
  | x :: xs, [], _, _, h => absurd ((h x).mp (List.mem_cons_self ..)) (by simp)
  | x :: xs, y :: ys, hx, hy, h => by
    obtain ⟨x1, x2⟩ := List.pairwise_cons.mp hx
    obtain ⟨y1, y2⟩ := List.pairwise_cons.mp hy
    have irr : ∀ p : Int × Int, ¬ lexP p p := fun p z => by rcases z with z | z <;> omega
    have asy : ∀ p q : Int × Int, lexP p q → lexP q p → False := fun p q z w => by
      rcases z with z | z <;> rcases w with w | w <;> omega
    have e : x = y := by
      rcases List.mem_cons.mp ((h x).mp (List.mem_cons_self ..)) with e | hxy
      · exact e
      · rcases List.mem_cons.mp ((h y).mpr (List.mem_cons_self ..)) with e | hyx
        · exact e.symm
        · exact (asy _ _ (x1 y hyx) (y1 x hxy)).elim
    subst e
    rw [lex_eq x2 y2 fun p => ?_]
    constructor
    · intro hp
      rcases List.mem_cons.mp ((h p).mp (List.mem_cons_of_mem _ hp)) with e | hp2
      · subst e; exact (irr _ (x1 _ hp)).elim
      · exact hp2
    · intro hp
      rcases List.mem_cons.mp ((h p).mpr (List.mem_cons_of_mem _ hp)) with e | hp2
      · subst e; exact (irr _ (y1 _ hp)).elim
      · exact hp2
end
theorem s_gfr2 {Φ : Nat → Spec} {ρ : Env} {S : Sto} {nx bk ct : Env → Sto → Prop} {rt : WK} {xc : XC} {i : Nat} {p q : Addr} {xs ys : List W} (h0 : ρ[i]? = some (some (.tup [.ref p, .ref q]))) (h1 : S p = some (.lst xs)) (h2 : S q = some (.lst ys)) (ne : p ≠ q)
    (h : nx (ρ.set i (some (.tup [.lst xs, .lst ys]))) (sdel (sdel S p) q)) : wps Φ (.gfr2 i) ρ S ⟨nx, rt, bk, ct, xc⟩ := ⟨p, q, xs, ys, h0, h1, h2, ne, h⟩
end MP

set_option Elab.async false
set_option linter.all false
set_option maxRecDepth 100000
set_option maxHeartbeats 4000000
/-! MY: short steps for raising, catching, asking. -/
namespace MP
open PySem PySem.Spec PyProof.Rows L2
section
variable {Φ : Nat → MP.Spec} {ρ : MP.Env} {S : Sto} {Q : WK} {X : XC} {nx bk ct : MP.Env → Sto → Prop} {rt : WK} {xc : XC}
theorem s_rse {x m : Str} (h : xc ⟨x, none⟩ S) : wps Φ (.rse x m) ρ S ⟨nx, rt, bk, ct, xc⟩ := h
theorem s_tca {i j : Nat} {x : Str} {xs : List Str} {t e : CE} (h : (wp Φ e).e ρ S (fun w S1 => (wp Φ t).g w ρ S1 nx) (fun ex S1 => ex.nm = none ∧ ex.cls ∈ xs ∧ ∀ p, S1 p = none → nx ((ρ.set j (some (.ref p))).set i none) (sup S1 p (.exn ex.cls)))) :
    wps Φ (.tca i j x xs t e) ρ S ⟨nx, rt, bk, ct, xc⟩ := h
theorem e_isc {a : CE} {x : Str} {ds xs : List Str} (h : (wp Φ a).e ρ S (fun w S1 => ∃ p c, w = .ref p ∧ S1 p = some (.exn c) ∧ c ∈ ds ∧ Q (.bl (decide (c ∈ xs))) S1) X) : (wp Φ (.isc a x ds xs)).e ρ S Q X := h
theorem t_isc {Q : Bool → Sto → Prop} {a : CE} {x : Str} {ds xs : List Str} (h : (wp Φ (.isc a x ds xs)).e ρ S (truK Q) X) : (wp Φ (.isc a x ds xs)).t ρ S Q X := h
end
end MP

set_option Elab.async false
set_option linter.all false
set_option maxRecDepth 100000
set_option maxHeartbeats 4000000
/-! NM: texts of small letters. -/
namespace NM
open PySem PySem.Spec PyProof.Rows L2 MP

def low (c : Nat) : Bool := decide (97 ≤ c) && decide (c ≤ 122)
/-- small letters alone, at most n -/
structure Nm (n : Nat) (x : Str) : Prop where
  len : x.length ≤ n
  low : ∀ c ∈ x.cps.toList, low c = true
theorem Nm.mono {n m : Nat} {x : Str} (h : Nm n x) (hm : n ≤ m) : Nm m x := ⟨Nat.le_trans h.len hm, h.low⟩
theorem len_cps {x : Str} : x.length = x.cps.toList.length := by rw [Array.length_toList]; rfl
theorem app_cps (x y : Str) : (x ++ y).cps.toList = x.cps.toList ++ y.cps.toList := by
  show (x.cps ++ y.cps).toList = _
  rw [Array.toList_append]
theorem app_len (x y : Str) : (x ++ y).length = x.length + y.length := by rw [len_cps, app_cps, List.length_append, ← len_cps, ← len_cps]
theorem Nm.app {n m : Nat} {x y : Str} (h : Nm n x) (g : Nm m y) : Nm (n + m) (x ++ y) := ⟨by rw [app_len]; have := h.len; have := g.len; omega, fun c hc => by
  rw [app_cps] at hc
  exact (List.mem_append.mp hc).elim (h.low c) (g.low c)⟩
theorem Nm.nil : Nm 0 Str.empty := ⟨Nat.le_refl _, fun c hc => by cases hc⟩
theorem Nm.one {c : Nat} (h : NM.low c = true) : Nm 1 ⟨#[c]⟩ := ⟨Nat.le_refl _, fun d hd => by
  have : d = c := by simpa using hd
  rw [this]; exact h⟩
theorem Nm.cut {n : Nat} {x : Str} (h : Nm n x) (lo hi : Option Int) : Nm n (cutS x lo hi) := by
  unfold cutS
  refine ⟨?_, fun c hc => h.low c ?_⟩
  · rw [len_cps]
    have := h.len
    rw [len_cps] at this
    simp only [List.length_take, List.length_drop]
    omega
  · have hc' : c ∈ (x.cps.toList.drop (HT.sIx x.length 0 lo)).take (HT.sIx x.length x.length hi - HT.sIx x.length 0 lo) := by simpa using hc
    exact List.mem_of_mem_drop (List.mem_of_mem_take hc')
theorem str_ext {x y : Str} (h : x.cps.toList = y.cps.toList) : x = y := by
  cases x; cases y
  congr 1
  exact Array.toList_inj.mp h
theorem join_nil : ∀ {ss : List Str} {n : Nat}, (∀ x ∈ ss, Nm 1 x) → ss.length ≤ n → Nm n (Txt.join Str.empty ss)
  | ss, n, h, hl => by
    have e : ∀ ss : List Str, (∀ x ∈ ss, Nm 1 x) → Nm ss.length (Str.join Str.empty ss) := by
      intro ss
      induction ss with
      | nil => intro _; exact Nm.nil
      | cons x r ih =>
        intro h
        have hx := h x (List.mem_cons_self ..)
        cases r with
        | nil => exact hx
        | cons y r =>
          have h2 := ih fun z hz => h z (List.mem_cons_of_mem _ hz)
          have h3 := (hx.app Nm.nil).app h2
          rw [show 1 + 0 + (y :: r).length = (x :: y :: r).length by simp only [List.length_cons]; omega] at h3
          exact h3
    have e2 : Txt.join Str.empty ss = Str.join Str.empty ss := by
      first
      | rfl
      | exact PySem.StrLaws.glued_eq_join _ _
    rw [e2]
    exact (e ss h).mono hl
theorem Nm.can {n : Nat} {x : Str} (h : Nm n x) : (PyData.str x).canLay0 = true := by
  show x.cps.all (· < 0x110000) = true
  rw [Array.all_eq_true]
  intro i hi
  have := h.low x.cps[i] (by simp)
  unfold NM.low at this
  simp only [Bool.and_eq_true, decide_eq_true_eq] at this
  simp only [decide_eq_true_eq]
  omega
theorem Nm.pln {n m : Nat} {x : Str} (h : Nm n x) : Pln m (.str x) := .str m x h.can
theorem Nm.line {n : Nat} {x : Str} (h : Nm n x) (hn : n ≤ 10000) : x.length ≤ sizeLine := le_line (Nat.le_trans h.len hn)
/-- the letter at a place of the alphabet -/
def lt (k : Nat) : Str := ⟨#[97 + k]⟩
theorem lt_inj {i j : Nat} (h : lt i = lt j) : i = j := by
  have h2 : (lt i).cps.toList = (lt j).cps.toList := by rw [h]
  have h3 : [97 + i] = [97 + j] := h2
  injection h3 with h3 _
  omega
theorem lt_nm {k : Nat} (h : k < 26) : Nm 1 (lt k) := Nm.one (by unfold NM.low; simp only [Bool.and_eq_true, decide_eq_true_eq]; omega)
theorem abc : ("abcdefghijklmnopqrstuvwxyz" : Str).cps.toList = (List.range 26).map (97 + ·) := by decide +kernel
theorem ix_abc {i : Int} {S : Sto} {Q : WK} (h0 : 0 ≤ i) (h1 : i < 26) (q : Q (.str (lt i.toNat)) S) : idxW (.str "abcdefghijklmnopqrstuvwxyz") (.int i) S Q := by
  refine ⟨by decide +kernel, 97 + i.toNat, atI_int h0 ?_, q⟩
  rw [abc, List.getElem?_map, List.getElem?_range (by omega)]
  rfl
/-- a letter put in at a place: different letters, different texts -/
theorem put_inj {a b x y : Str} (h : a ++ x ++ b = a ++ y ++ b) : x = y := by
  have h2 : (a ++ x ++ b).cps.toList = (a ++ y ++ b).cps.toList := by rw [h]
  rw [app_cps, app_cps, app_cps, app_cps] at h2
  exact str_ext (List.append_cancel_left (List.append_cancel_right h2))
theorem app_emp (x : Str) : x ++ Str.empty = x := str_ext (by rw [app_cps]; exact List.append_nil _)
theorem b_strs {x y : Str} {n m : Nat} {live : Bool} {S : Sto} {Q : WK} (h : Nm n x) (g : Nm m y) (hl : n + m ≤ 10000) (q : Q (.str (x ++ y)) S) : bopW live .add (.str x) (.str y) S Q :=
  ⟨le_line (by have := h.len; have := g.len; omega), q⟩
end NM

set_option Elab.async false
set_option linter.all false
set_option maxRecDepth 100000
set_option maxHeartbeats 4000000
/-! DK: dicts by their pairs; dicts with tuples for keys; short steps. -/
namespace DK
open PySem PySem.Spec PyProof.Rows L2 MP NM
section
variable {κ : Type} [DecidableEq κ] {kvs acc more : List (κ × W)} {k j : κ} {v w : W}
theorem get_nil : getK ([] : List (κ × W)) k = none := rfl
theorem get_cons {p : κ × W} : getK (p :: kvs) k = if p.1 = k then some p.2 else getK kvs k := by
  unfold getK
  rw [List.find?_cons]
  by_cases h : p.1 = k
  · rw [if_pos h, decide_eq_true h]; rfl
  · rw [if_neg h, decide_eq_false h]
theorem get_mem (h : getK kvs k = some v) : (k, v) ∈ kvs := by
  induction kvs with
  | nil => cases h
  | cons p kvs ih =>
    rw [get_cons] at h
    by_cases e : p.1 = k
    · rw [if_pos e] at h
      cases h
      rw [← e]; exact List.mem_cons_self ..
    · rw [if_neg e] at h
      exact List.mem_cons_of_mem _ (ih h)
theorem get_some : (∃ v, getK kvs k = some v) ↔ k ∈ kvs.map (·.1) := by
  induction kvs with
  | nil => exact ⟨fun ⟨_, h⟩ => (by cases h), fun h => (by cases h)⟩
  | cons p kvs ih =>
    rw [get_cons, List.map_cons, List.mem_cons, ← ih]
    by_cases e : p.1 = k
    · rw [if_pos e]; exact ⟨fun _ => .inl e.symm, fun _ => ⟨_, rfl⟩⟩
    · rw [if_neg e]
      exact ⟨fun h => .inr h, fun h => h.elim (fun z => absurd z.symm e) id⟩
theorem get_none : getK kvs k = none ↔ k ∉ kvs.map (·.1) := by
  rw [← get_some]
  cases getK kvs k with
  | none => exact ⟨fun _ ⟨_, h⟩ => (by cases h), fun _ => rfl⟩
  | some v => exact ⟨fun h => (by cases h), fun h => absurd ⟨v, rfl⟩ h⟩
theorem get_of (hn : (kvs.map (·.1)).Nodup) (h : (k, v) ∈ kvs) : getK kvs k = some v := by
  induction kvs with
  | nil => cases h
  | cons p kvs ih =>
    rw [List.map_cons, List.nodup_cons] at hn
    rw [get_cons]
    rcases List.mem_cons.mp h with e | h
    · rw [← e, if_pos rfl]
    · rw [if_neg fun e => hn.1 (by rw [e]; exact List.mem_map.mpr ⟨_, h, rfl⟩)]
      exact ih hn.2 h
theorem any_iff : (kvs.any fun kv => decide (kv.1 = k)) = true ↔ k ∈ kvs.map (·.1) := by
  rw [List.any_eq_true]
  constructor
  · rintro ⟨p, hp, e⟩
    exact List.mem_map.mpr ⟨p, hp, of_decide_eq_true e⟩
  · intro h
    obtain ⟨p, hp, e⟩ := List.mem_map.mp h
    exact ⟨p, hp, decide_eq_true e⟩
theorem get_app : getK (kvs ++ more) k = (getK kvs k).or (getK more k) := by
  induction kvs with
  | nil => rfl
  | cons p kvs ih =>
    rw [List.cons_append, get_cons, get_cons]
    by_cases e : p.1 = k
    · rw [if_pos e, if_pos e]; rfl
    · rw [if_neg e, if_neg e]; exact ih
theorem get_upd : getK (kvs.map fun kv => if kv.1 = k then (kv.1, v) else kv) j = if j = k then (if k ∈ kvs.map (·.1) then some v else none) else getK kvs j := by
  induction kvs with
  | nil =>
    show none = _
    split
    · rw [if_neg (by simp)]
    · rfl
  | cons p kvs ih =>
    rw [List.map_cons, get_cons, get_cons, ih]
    have h1 : (if p.1 = k then (p.1, v) else p).1 = p.1 := by split <;> rfl
    rw [h1]
    by_cases e2 : j = k
    · subst e2
      by_cases e : p.1 = j
      · rw [if_pos e, if_pos rfl, if_pos (show j ∈ (p :: kvs).map (·.1) by rw [← e]; exact List.mem_cons_self ..), if_pos e]
      · rw [if_neg e, if_pos rfl, if_pos rfl]
        have : (j ∈ (p :: kvs).map (·.1)) ↔ j ∈ kvs.map (·.1) := by
          rw [List.map_cons, List.mem_cons]
          exact ⟨fun h => h.elim (fun z => absurd z.symm e) id, .inr⟩
        by_cases h : j ∈ kvs.map (·.1)
        · rw [if_pos h, if_pos (this.mpr h)]
        · rw [if_neg h, if_neg fun z => h (this.mp z)]
    · rw [if_neg e2, if_neg e2]
      by_cases e : p.1 = j
      · rw [if_pos e, if_pos e, if_neg fun z => e2 (e.symm.trans z)]
      · rw [if_neg e, if_neg e]
theorem get_set : getK (setK kvs k v) j = if j = k then some v else getK kvs j := by
  unfold setK
  by_cases h : (kvs.any fun kv => decide (kv.1 = k)) = true
  · rw [if_pos h, get_upd, if_pos (any_iff.mp h)]
  · rw [if_neg h]
    rw [any_iff] at h
    rw [get_app, get_cons, get_nil]
    by_cases e : j = k
    · subst e
      rw [if_pos rfl, if_pos rfl, get_none.mpr h]; rfl
    · rw [if_neg e, if_neg (by show ¬ k = j; exact fun z => e z.symm)]
      cases getK kvs j <;> rfl
theorem set_keys : (setK kvs k v).map (·.1) = if k ∈ kvs.map (·.1) then kvs.map (·.1) else kvs.map (·.1) ++ [k] := by
  unfold setK
  by_cases h : (kvs.any fun kv => decide (kv.1 = k)) = true
  · rw [if_pos h, if_pos (any_iff.mp h), List.map_map]
    refine List.map_congr_left fun p _ => ?_
    show (if p.1 = k then (p.1, v) else p).1 = p.1
    split <;> rfl
  · rw [if_neg h, if_neg (fun z => h (any_iff.mpr z)), List.map_append]
    rfl
theorem set_nodup (hn : (kvs.map (·.1)).Nodup) : ((setK kvs k v).map (·.1)).Nodup := by
  rw [set_keys]
  split
  · exact hn
  · rename_i h
    rw [List.nodup_append]
    exact ⟨hn, by simp, fun a ha b hb e => by
      rw [List.mem_singleton.mp hb] at e
      subst e; exact h ha⟩
theorem set_mem : j ∈ (setK kvs k v).map (·.1) ↔ j ∈ kvs.map (·.1) ∨ j = k := by
  rw [set_keys]
  split
  · rename_i h
    exact ⟨.inl, fun z => z.elim id fun e => e ▸ h⟩
  · rw [List.mem_append, List.mem_singleton]
theorem set_len : (setK kvs k v).length ≤ kvs.length + 1 := by
  have := congrArg List.length (set_keys (kvs := kvs) (k := k) (v := v))
  rw [List.length_map] at this
  rw [this]
  split <;> simp
theorem set_old (h : k ∈ kvs.map (·.1)) : (setK kvs k v).length = kvs.length := by
  have := congrArg List.length (set_keys (kvs := kvs) (k := k) (v := v))
  rw [List.length_map, if_pos h, List.length_map] at this
  exact this
theorem set_new (h : k ∉ kvs.map (·.1)) : setK kvs k v = kvs ++ [(k, v)] := by
  unfold setK
  rw [if_neg fun z => h (any_iff.mp z)]
theorem set_ent {p : κ × W} (h : p ∈ setK kvs k v) : p ∈ kvs ∨ (p.1 = k ∧ p.2 = v) := by
  unfold setK at h
  split at h
  · obtain ⟨q, hq, e⟩ := List.mem_map.mp h
    split at e
    · rename_i e2
      rw [← e]
      exact .inr ⟨e2, rfl⟩
    · rw [← e]; exact .inl hq
  · rcases List.mem_append.mp h with h | h
    · exact .inl h
    · rw [List.mem_singleton.mp h]
      exact .inr ⟨rfl, rfl⟩
/-- pairs put one after another: unlike keys are just put behind -/
theorem puts_new (hn : ((acc ++ more).map (·.1)).Nodup) : putsW acc more = acc ++ more := by
  induction more generalizing acc with
  | nil => rw [List.append_nil]; rfl
  | cons p more ih =>
    show putsW (setK acc p.1 p.2) more = _
    have e : acc ++ p :: more = (acc ++ [p]) ++ more := by rw [List.append_assoc]; rfl
    have h1 : p.1 ∉ acc.map (·.1) := by
      rw [List.map_append, List.map_cons, List.nodup_append] at hn
      exact fun z => hn.2.2 _ z _ (List.mem_cons_self ..) rfl
    rw [set_new h1, e]
    exact ih (by rw [← e]; exact hn)
theorem puts_keys : ∀ {more acc : List (κ × W)}, j ∈ (putsW acc more).map (·.1) ↔ j ∈ acc.map (·.1) ∨ j ∈ more.map (·.1)
  | [], acc => by
    show j ∈ acc.map (·.1) ↔ _
    rw [List.map_nil]
    exact ⟨.inl, fun h => h.elim id fun z => (by cases z)⟩
  | p :: more, acc => by
    show j ∈ (putsW (setK acc p.1 p.2) more).map (·.1) ↔ _
    rw [puts_keys, set_mem, List.map_cons, List.mem_cons, or_assoc]
theorem puts_len : ∀ {more acc : List (κ × W)}, (putsW acc more).length ≤ acc.length + more.length
  | [], acc => Nat.le_refl _
  | p :: more, acc => by
    have h1 := puts_len (more := more) (acc := setK acc p.1 p.2)
    have h2 := set_len (kvs := acc) (k := p.1) (v := p.2)
    show (putsW (setK acc p.1 p.2) more).length ≤ _
    rw [List.length_cons]
    omega
theorem puts_nodup : ∀ {more acc : List (κ × W)}, (acc.map (·.1)).Nodup → ((putsW acc more).map (·.1)).Nodup
  | [], acc, h => h
  | p :: more, acc, h => puts_nodup (more := more) (set_nodup h)
end
/-! ### dicts with tuples for keys -/
section
variable {S : Sto} {a : Addr} {Q : WK} {ws : List W} {kvs : List (List Key × W)} {k : List Key} {v w : W}
theorem rd_t (h : S a = some (.dt kvs)) (hk : keysW ws = some k) : rdD S (.ref a) (.tup ws) = some (getK kvs k) := by
  show (S a).bind _ = _
  rw [h]
  show (keysW ws).map _ = _
  rw [hk]
  rfl
theorem ix_dt (h : S a = some (.dt kvs)) (hk : keysW ws = some k) (hw : getK kvs k = some w) (q : Q w S) : idxW (.ref a) (.tup ws) S Q := .inr ⟨w, by rw [rd_t h hk, hw], q⟩
theorem st_dt {Q : Sto → Prop} (h : S a = some (.dt kvs)) (hk : keysW ws = some k) (hl : kvs.length < sizeLine) (q : Q (sup S a (.dt (setK kvs k v)))) : setW (.ref a) (.tup ws) v S Q := ⟨a, rfl, .inr (.inr ⟨kvs, ws, k, h, rfl, hk, hl, q⟩)⟩
theorem in_dt {Q : Bool → Prop} (h : S a = some (.dt kvs)) (hk : keysW ws = some k) (q : Q (getK kvs k).isSome) : cmpW .In (.tup ws) (.ref a) S Q := .inr (.inl ⟨_, rd_t h hk, q⟩)
theorem notin_dt {Q : Bool → Prop} (h : S a = some (.dt kvs)) (hk : keysW ws = some k) (q : Q !(getK kvs k).isSome) : cmpW .NotIn (.tup ws) (.ref a) S Q := .inr (.inl ⟨_, rd_t h hk, q⟩)
theorem keys_s (x : Str) : keysW [.str x] = some [.inr x] := rfl
theorem keys_ss (x y : Str) : keysW [.str x, .str y] = some [.inr x, .inr y] := rfl
theorem keys_sss (x y z : Str) : keysW [.str x, .str y, .str z] = some [.inr x, .inr y, .inr z] := rfl
end
/-! ### comprehensions, turn by turn -/
section
variable {src : Sto → Prop} {g : W → MP.Env → Sto → (MP.Env → Sto → Prop) → Prop} {t : MP.Env → Sto → (Bool → Sto → Prop) → Prop} {e : MP.Env → Sto → WK → Prop} {Φ : Nat → MP.Spec} {ρ : MP.Env} {S : Sto} {Q : List W → Sto → Prop} {x : W} {xs acc : List W}
theorem lc_n (hs : src S) (h : Q acc S) : wpLc src g t e ρ [] acc S Q := ⟨hs, h⟩
theorem lc_c0 (hs : src S) (h : g x ρ S fun ρ1 S1 => e ρ1 S1 (fun y S3 => acc.length < sizeLine ∧ wpLc src g (wp Φ .nil).c e ρ xs (acc ++ [y]) S3 Q)) : wpLc src g (wp Φ .nil).c e ρ (x :: xs) acc S Q := ⟨hs, h⟩
end
/-! ### fewer cells -/
section
variable {S T U : Sto} {a p : Addr} {o u : Ob}
theorem fewer_trans (h : Fewer S T) (g : Fewer T U) : Fewer S U := fun b o e => g b o (h b o e)
theorem fewer_at (h : Fewer S T) (e : S a = some o) : T a = some o := h a o e
/-- a cell that was there, put -/
theorem fewer_put (h : Fewer S T) : Fewer (sup S a o) (sup T a o) := fun b u e => by
  by_cases z : b = a
  · subst z; rw [sup_same] at e ⊢; exact e
  · rw [sup_ne z] at e ⊢; exact h b u e
/-- one more, or other, that S doesn't know -/
theorem fewer_more (h : Fewer S T) (hp : S p = none) : Fewer S (sup T p o) := fun b u e => by
  have z : b ≠ p := fun z => by rw [z, hp] at e; cases e
  rw [sup_ne z]; exact h b u e
theorem fewer_del (h : Fewer S T) (hp : S p = none) : Fewer S (sdel T p) := fun b u e => by
  have z : b ≠ p := fun z => by rw [z, hp] at e; cases e
  rw [sdel_ne z]; exact h b u e
theorem none_sup (hp : S p = none) (h : p ≠ a) : sup S a o p = none := by rw [sup_ne h]; exact hp
end
/-! ### choices out of a written list -/
theorem ix_pick {ws : List W} {P : W → Prop} {i : Int} {S : Sto} {Q : WK} (h0 : 0 ≤ i) (h : i < ws.length) (hp : ∀ w ∈ ws, P w) (q : ∀ w, P w → Q w S) : idxW (.lst ws) (.int i) S Q :=
  ix_any h0 h fun w hw => q w (hp w hw)
end DK

set_option Elab.async false
set_option linter.all false
set_option maxRecDepth 100000
set_option maxHeartbeats 4000000
/-! LD: draws, names and hours of the laws with a dict of draws. -/
namespace LD
open PySem PySem.Spec PyProof.Rows L2 MP NM

/-! _law_draw -/
def N_draw : List Str := ["_law_m", "_law_many", "_law_k", "_law_cells", "_law_found"]
def P_draw : List Str := ["_law_m", "_law_many"]
def c_draw : CS :=
  (.seq (.asg (.tnm 2) (.idx (.var 0) (.cst (.str "at")))) (.seq (.asg (.tsub (.var 0) (.cst (.str "at"))) (.bin false .add (.var 2) (.cst (.int 1)))) (.seq (.asg (.tnm 3) (.bin false .add (.idx (.var 0) (.cst (.str "script"))) (.bin false .mul (.lst false (.cons (.cst (.int 0)) .nil)) (.blt .int false (.cons (.cmp .Eq (.idx (.var 0) (.cst (.str "script"))) (.lst false .nil)) .nil))))) (.seq (.asg (.tnm 4) (.bin false .mod (.bin false .mul (.bin false .add (.bin false .add (.bin false .mod (.idx (.var 3) (.bin false .mod (.var 2) (.blt .len false (.cons (.var 3) .nil)))) (.bin false .pow (.cst (.int 10)) (.cst (.int 60)))) (.bin false .mul (.cst (.int 7919)) (.var 2))) (.cst (.int 11))) (.cst (.int 48271))) (.cst (.int 2147483647)))) (.seq (.ret (.bin false .mod (.bin false .fdiv (.bin false .mod (.bin false .mul (.var 4) (.bin false .add (.bin false .mod (.var 4) (.cst (.int 65521))) (.cst (.int 3)))) (.cst (.int 2147483629))) (.cst (.int 8))) (.var 1))) .nil)))))
/-! _law_names -/
def N_names : List Str := ["_law_m", "_law_many", "_law_letters", "_law_first", "_law_frame", "_law_at", "_law_found", "_law_k", "_law_mark"]
def P_names : List Str := ["_law_m", "_law_many"]
def c_names (i_draw : Nat) : CS :=
  (.seq (.asg (.tnm 2) (.cst (.str "abcdefghijklmnopqrstuvwxyz"))) (.seq (.asg (.tnm 3) (.call i_draw (.cons (.var 0) (.cons (.cst (.int 26)) .nil)))) (.seq (.asg (.tnm 4) (.mth .join (.cst (.str "")) (.cons (.lc false [("_law_k", 7)] (.tnm 7) (.irng1 (.call i_draw (.cons (.var 0) (.cons (.cst (.int 7)) .nil)))) .nil (.idx (.var 2) (.bin false .mod (.bin false .add (.var 3) (.bin false .mul (.cst (.int 5)) (.var 7))) (.cst (.int 26))))) .nil))) (.seq (.asg (.tnm 5) (.call i_draw (.cons (.var 0) (.cons (.bin false .add (.blt .len false (.cons (.var 4) .nil)) (.cst (.int 1))) .nil)))) (.seq (.asg (.tnm 6) (.lst true .nil)) (.seq (.fr (.tnm 7) (.irng1 (.var 1)) (.seq (.asg (.tnm 8) (.bin false .add (.idx (.var 2) (.bin false .mod (.bin false .add (.var 3) (.bin false .mul (.cst (.int 7)) (.var 7))) (.cst (.int 26)))) (.bin false .mul (.idx (.var 2) (.bin false .fdiv (.var 7) (.cst (.int 26)))) (.blt .int false (.cons (.cmp .Gt (.var 1) (.cst (.int 26))) .nil))))) (.seq (.expr (.mth .append (.var 6) (.cons (.bin false .add (.bin false .add (.slc false (.var 4) .nil (.var 5)) (.var 8)) (.slc false (.var 4) (.var 5) .nil)) .nil))) .nil))) (.seq (.gfrz 6) (.seq (.ret (.var 6)) .nil))))))))
/-! _law_hours -/
def N_hours : List Str := ["_law_m", "_law_way"]
def P_hours : List Str := ["_law_m"]
def c_hours (i_draw : Nat) : CS :=
  (.seq (.asg (.tnm 1) (.call i_draw (.cons (.var 0) (.cons (.cst (.int 8)) .nil)))) (.seq (.iff (.cmp .Lt (.var 1) (.cst (.int 6))) (.seq (.ret (.bin false .add (.cst (.int 1)) (.call i_draw (.cons (.var 0) (.cons (.idx (.lst false (.cons (.cst (.int 3)) (.cons (.cst (.int 12)) (.cons (.cst (.int 1000)) .nil)))) (.bin false .mod (.var 1) (.cst (.int 3)))) .nil))))) .nil) .nil) (.seq (.ret (.bin false .sub (.bin false .pow (.cst (.int 10)) (.cst (.int 30))) (.bin false .mul (.call i_draw (.cons (.var 0) (.cons (.bin false .pow (.cst (.int 10)) (.cst (.int 9))) .nil))) (.idx (.lst false (.cons (.cst (.int 1)) (.cons (.bin false .pow (.cst (.int 10)) (.cst (.int 21))) .nil))) (.bin false .sub (.var 1) (.cst (.int 6))))))) .nil)))

abbrev iL (ns : List Int) : W := .lst (ns.map W.int)
/-- the dict of the draws: the script, and how many were drawn -/
def mO (ns : List Int) (k : Int) : Ob := .dk [(.inr "script", iL ns), (.inr "at", .int k)]
def Ctr (S : Sto) (a : Addr) (ns : List Int) (k : Int) (m : Int) : Prop := S a = some (mO ns k) ∧ 0 ≤ k ∧ k + m < 1000000000
abbrev putC (S : Sto) (a : Addr) (ns : List Int) (k : Int) : Sto := sup S a (mO ns k)
theorem g_at {ns : List Int} {k : Int} : getK [((.inr "script" : Key), iL ns), (.inr "at", W.int k)] (.inr "at") = some (.int k) := by
  unfold getK
  simp only [List.find?_cons]
  have e : decide ((Sum.inr "script" : Key) = .inr "at") = false := by decide +kernel
  rw [e]
  rfl
theorem g_sc {ns : List Int} {k : Int} : getK [((.inr "script" : Key), iL ns), (.inr "at", W.int k)] (.inr "script") = some (iL ns) := by
  unfold getK
  simp
theorem s_at {ns : List Int} {k j : Int} : setK [((.inr "script" : Key), iL ns), (.inr "at", W.int k)] (.inr "at") (.int j) = [(.inr "script", iL ns), (.inr "at", .int j)] := by
  unfold setK
  have e : (Sum.inr "script" : Key) ≠ .inr "at" := by decide +kernel
  simp [e]
section
variable {ns : List Int} {a : Addr} {k : Int} {S S2 : Sto} {Q : WK} {X : XC}
theorem ix_at (h : S a = some (mO ns k)) (q : Q (.int k) S) : idxW (.ref a) (.str "at") S Q := ix_d h rfl g_at q
theorem ix_sc (h : S a = some (mO ns k)) (q : Q (iL ns) S) : idxW (.ref a) (.str "script") S Q := ix_d h rfl g_sc q
theorem st_at {j : Int} {Q : Sto → Prop} (h : S a = some (mO ns k)) (q : Q (putC S a ns j)) : setW (.ref a) (.str "at") (.int j) S Q := st_d h rfl (by show 2 < sizeLine; decide) (by rw [s_at]; exact q)
def spDraw : MP.Spec := fun ws S Q _ => ∃ ns a k m, ws = [.ref a, .int m] ∧ ns.length ≤ 63 ∧ Ctr S a ns k 1 ∧ 0 < m ∧ m < 2 ^ 100 ∧
  ∀ v, 0 ≤ v → v < m → Q (.int v) (putC S a ns (k + 1))
theorem u_draw {m : Int} (hn : ns.length ≤ 63) (ha : S a = some (mO ns k)) (h0 : 0 ≤ k) (h9 : k + 1 < 1000000000) (m0 : 0 < m) (m1 : m < 2 ^ 100) (e : putC S a ns (k + 1) = S2) (q : ∀ v, 0 ≤ v → v < m → Q (.int v) S2) : spDraw [.ref a, .int m] S Q X := by
  subst e; exact ⟨ns, a, k, m, rfl, hn, ⟨ha, h0, h9⟩, m0, m1, q⟩
end
theorem cells {ns : List Int} {i : Int} {c : Int} (h : c = if ns = [] then 1 else 0) (h0 : 0 ≤ i) : 0 < ((ns.map W.int ++ (List.replicate c.toNat [W.int 0]).flatten).length : Int) ∧
    ∃ z, atI (ns.map W.int ++ (List.replicate c.toNat [W.int 0]).flatten) (i % ((ns.map W.int ++ (List.replicate c.toNat [W.int 0]).flatten).length : Int)) = some (.int z) := by
  obtain ⟨ms, e, ne⟩ : ∃ ms : List Int, ns.map W.int ++ (List.replicate c.toNat [W.int 0]).flatten = ms.map W.int ∧ ms ≠ [] := by
    subst h
    by_cases c : ns = []
    · rw [if_pos c, c]
      exact ⟨[0], rfl, by simp⟩
    · rw [if_neg c]
      exact ⟨ns, by simp, c⟩
  rw [e, List.length_map]
  have hl : 0 < ms.length := List.length_pos_iff.mpr ne
  have h1 := Int.emod_nonneg i (show ((ms.length : Nat) : Int) ≠ 0 by omega)
  have h2 := Int.emod_lt_of_pos i (show (0 : Int) < (ms.length : Nat) by omega)
  refine ⟨by omega, ms[(i % (ms.length : Int)).toNat]'(by omega), atI_int h1 ?_⟩
  rw [List.getElem?_map, List.getElem?_eq_getElem (by omega)]
  rfl
/-- unlike names -/
def spNames : MP.Spec := fun ws S Q _ => ∃ ns a k n, ws = [.ref a, .int (n : Nat)] ∧ ns.length ≤ 63 ∧ Ctr S a ns k 10 ∧ n ≤ 26 ∧
  ∀ (f : Nat → Str) k', (∀ i, i < n → Nm 13 (f i)) → (∀ i j, i < n → j < n → f i = f j → i = j) → k ≤ k' → k' ≤ k + 3 → Q (.lst ((List.range n).map fun i => .str (f i))) (putC S a ns k')
theorem letters {first : Int} {i : Nat} : ((first + 7 * (0 + (i : Int))) % 26).toNat < 26 := by
  have h1 := Int.emod_nonneg (first + 7 * (0 + (i : Int))) (show (26 : Int) ≠ 0 by decide)
  have h2 := Int.emod_lt_of_pos (first + 7 * (0 + (i : Int))) (show (0 : Int) < 26 by decide)
  omega
theorem letters_inj {first : Int} {i j : Nat} (hi : i < 26) (hj : j < 26) (h : ((first + 7 * (0 + (i : Int))) % 26).toNat = ((first + 7 * (0 + (j : Int))) % 26).toNat) : i = j := by
  have h1 := Int.emod_nonneg (first + 7 * (0 + (i : Int))) (show (26 : Int) ≠ 0 by decide)
  have h2 := Int.emod_nonneg (first + 7 * (0 + (j : Int))) (show (26 : Int) ≠ 0 by decide)
  omega
theorem emp : ("" : Str) = Str.empty := by decide +kernel
theorem strs_map {α : Type} (f : α → Str) : ∀ xs : List α, strsW (xs.map fun x => W.str (f x)) = some (xs.map f)
  | [] => rfl
  | x :: xs => by
    show (strsW (xs.map fun x => W.str (f x))).map _ = _
    rw [strs_map f xs]
    rfl
theorem m_join0 {y : W} {ws : List W} {ss : List Str} {S : Sto} {Q : WK} (h : rdQ S y = some ws) (hs : strsW ws = some ss) (hn : ∀ x ∈ ss, Nm 1 x) (hl : ss.length ≤ 1000) (q : Q (.str (Txt.join ("" : Str) ss)) S) : mthW .join (.str "") [y] S Q := by
  refine ⟨ws, ss, h, hs, ?_, q⟩
  have e : ∀ ss : List Str, (∀ x ∈ ss, Nm 1 x) → (ss.map Str.length).sum ≤ ss.length := by
    intro ss
    induction ss with
    | nil => intro _; exact Nat.le_refl _
    | cons x r ih =>
      intro h
      have h1 := (h x (List.mem_cons_self ..)).len
      have h2 := ih fun y hy => h y (List.mem_cons_of_mem _ hy)
      rw [List.map_cons, List.sum_cons, List.length_cons]
      omega
  have h1 := e ss hn
  have h2 : ("" : Str).length = 0 := by decide +kernel
  rw [h2]
  omega
/-- the name with a letter put in -/
def nmF (F : Str) (at' first : Int) (j : Nat) : Str := cutS F none (some at') ++ (lt ((first + 7 * (0 + (j : Int))) % 26).toNat ++ Str.empty) ++ cutS F (some at') none
theorem nmF_nm {F : Str} {at' first : Int} {j : Nat} (h : Nm 6 F) : Nm 13 (nmF F at' first j) := ((h.cut _ _).app ((lt_nm letters).app Nm.nil)).app (h.cut _ _)
theorem nmF_inj {F : Str} {at' first : Int} {i j : Nat} (hi : i < 26) (hj : j < 26) (h : nmF F at' first i = nmF F at' first j) : i = j := by
  have h2 := put_inj h
  rw [app_emp, app_emp] at h2
  exact letters_inj hi hj (lt_inj h2)
theorem ite_d {p : Prop} [Decidable p] {A B : Prop} (h1 : p → A) (h2 : ¬p → B) : if decide p = true then A else B := by
  by_cases h : p
  · rw [if_pos (decide_eq_true h)]; exact h1 h
  · rw [if_neg (by simp [h])]; exact h2 h
/-- hours, few or many -/
def spHours : MP.Spec := fun ws S Q _ => ∃ ns a k, ws = [.ref a] ∧ ns.length ≤ 63 ∧ Ctr S a ns k 10 ∧
  ∀ h k', 1 ≤ h → h ≤ 10 ^ 30 → k ≤ k' → k' ≤ k + 2 → Q (.int h) (putC S a ns k')
end LD

set_option Elab.async false
set_option linter.all false
set_option maxRecDepth 100000
set_option maxHeartbeats 4000000
/-! LF: draws, names, hours of the laws with a list of how many were drawn. -/
namespace LF
open PySem PySem.Spec PyProof.Rows L2 MP NM DK

/-! _law_draw -/
def N_draw : List Str := ["_law_script", "_law_at", "_law_many", "_law_k", "_law_cells", "_law_number"]
def P_draw : List Str := ["_law_script", "_law_at", "_law_many"]
def c_draw : CS :=
  (.seq (.asg (.tnm 3) (.idx (.var 1) (.cst (.int 0)))) (.seq (.asg (.tsub (.var 1) (.cst (.int 0))) (.bin false .add (.var 3) (.cst (.int 1)))) (.seq (.asg (.tnm 4) (.bin false .add (.var 0) (.bin false .mul (.lst false (.cons (.cst (.int 0)) .nil)) (.blt .int false (.cons (.cmp .Eq (.var 0) (.lst false .nil)) .nil))))) (.seq (.asg (.tnm 5) (.bin false .mod (.bin false .mul (.bin false .add (.bin false .add (.bin false .mod (.idx (.var 4) (.bin false .mod (.var 3) (.blt .len false (.cons (.var 4) .nil)))) (.cst (.int 1000000007))) (.bin false .mul (.cst (.int 31)) (.var 3))) (.cst (.int 17))) (.cst (.int 48271))) (.cst (.int 2147483647)))) (.seq (.ret (.bin false .mod (.bin false .fdiv (.bin false .mod (.bin false .mul (.var 5) (.bin false .add (.bin false .mul (.var 3) (.var 3)) (.cst (.int 16807)))) (.cst (.int 2147483629))) (.cst (.int 4096))) (.var 2))) .nil)))))
/-! _law_names -/
def N_names : List Str := ["_law_script", "_law_at", "_law_many", "_law_letters", "_law_tail", "_law_first", "_law_size", "_law_place", "_law_most", "_law_k", "_law_j"]
def P_names : List Str := ["_law_script", "_law_at", "_law_many"]
def c_names (i_draw : Nat) : CS :=
  (.seq (.asg (.tnm 3) (.cst (.str "abcdefghijklmnopqrstuvwxyz"))) (.seq (.asg (.ttup (.cons (.tnm 5) (.cons (.tnm 6) (.cons (.tnm 7) .nil)))) (.lc false [("_law_most", 8)] (.tnm 8) (.iseq (.tup (.cons (.cst (.int 26)) (.cons (.cst (.int 8)) (.cons (.cst (.int 8)) .nil))))) .nil (.call i_draw (.cons (.var 0) (.cons (.var 1) (.cons (.var 8) .nil)))))) (.seq (.asg (.tnm 4) (.mth .join (.cst (.str "")) (.cons (.lc false [("_law_j", 10)] (.tnm 10) (.irng1 (.var 6)) .nil (.idx (.var 3) (.bin false .mod (.bin false .add (.var 5) (.bin false .mul (.cst (.int 5)) (.var 10))) (.cst (.int 26))))) .nil))) (.seq (.ret (.lc false [("_law_k", 9)] (.tnm 9) (.irng1 (.var 2)) .nil (.bin false .add (.bin false .add (.slc false (.var 4) .nil (.var 7)) (.idx (.var 3) (.bin false .mod (.bin false .add (.var 5) (.bin false .mul (.cst (.int 7)) (.var 9))) (.cst (.int 26))))) (.slc false (.var 4) (.var 7) .nil)))) .nil))))
/-! _law_hours -/
def N_hours : List Str := ["_law_script", "_law_at", "_law_small", "_law_wide"]
def P_hours : List Str := ["_law_script", "_law_at"]
def c_hours (i_draw : Nat) : CS :=
  (.seq (.asg (.tnm 2) (.bin false .add (.cst (.int 1)) (.call i_draw (.cons (.var 0) (.cons (.var 1) (.cons (.cst (.int 9)) .nil)))))) (.seq (.asg (.tnm 3) (.bin false .add (.cst (.int 1)) (.bin false .mul (.call i_draw (.cons (.var 0) (.cons (.var 1) (.cons (.bin false .pow (.cst (.int 10)) (.cst (.int 9))) .nil)))) (.bin false .pow (.cst (.int 10)) (.cst (.int 20)))))) (.seq (.ret (.idx (.lst false (.cons (.var 2) (.cons (.var 2) (.cons (.var 2) (.cons (.var 2) (.cons (.var 3) (.cons (.bin false .pow (.cst (.int 10)) (.cst (.int 30))) (.cons (.bin false .sub (.bin false .pow (.cst (.int 10)) (.cst (.int 30))) (.var 2)) .nil)))))))) (.call i_draw (.cons (.var 0) (.cons (.var 1) (.cons (.cst (.int 7)) .nil)))))) .nil)))
/-! _law_town -/
def N_town : List Str := ["_law_script", "_law_at", "_law_many", "_law_found", "_law_name", "_law_great", "_law_purse", "_law_below", "_law_over", "_law_k"]
def P_town : List Str := ["_law_script", "_law_at", "_law_many"]
def c_town (i_names i_draw i_hours : Nat) : CS :=
  (.seq (.asg (.tnm 3) (.lst true .nil)) (.seq (.fr (.tnm 4) (.iseq (.call i_names (.cons (.var 0) (.cons (.var 1) (.cons (.var 2) .nil))))) (.seq (.asg (.tnm 5) (.bin false .sub (.bin false .pow (.cst (.int 10)) (.cst (.int 30))) (.call i_draw (.cons (.var 0) (.cons (.var 1) (.cons (.cst (.int 5)) .nil)))))) (.seq (.asg (.tnm 6) (.idx (.lst false (.cons (.cst (.int 0)) (.cons (.cst (.int 0)) (.cons (.bin false .sub (.call i_draw (.cons (.var 0) (.cons (.var 1) (.cons (.cst (.int 19)) .nil)))) (.cst (.int 9))) (.cons (.var 5) (.cons (.bin false .sub (.cst (.int 0)) (.var 5)) .nil)))))) (.call i_draw (.cons (.var 0) (.cons (.var 1) (.cons (.cst (.int 5)) .nil)))))) (.seq (.asg (.ttup (.cons (.tnm 7) (.cons (.tnm 8) .nil))) (.lc false [("_law_k", 9)] (.tnm 9) (.irng1 (.cst (.int 2))) .nil (.idx (.lst false (.cons (.cst (.int 0)) (.cons (.cst (.int 0)) (.cons (.call i_hours (.cons (.var 0) (.cons (.var 1) .nil))) (.cons (.cst (.int 3)) .nil))))) (.call i_draw (.cons (.var 0) (.cons (.var 1) (.cons (.cst (.int 4)) .nil))))))) (.seq (.expr (.mth .append (.var 3) (.cons (.tup (.cons (.var 4) (.cons (.var 6) (.cons (.blt .max2 false (.cons (.neg (.bin false .pow (.cst (.int 10)) (.cst (.int 30)))) (.cons (.bin false .sub (.var 6) (.var 7)) .nil))) (.cons (.blt .min2 false (.cons (.bin false .pow (.cst (.int 10)) (.cst (.int 30))) (.cons (.bin false .add (.var 6) (.var 8)) .nil))) .nil))))) .nil))) .nil))))) (.seq (.gfrz 3) (.seq (.ret (.var 3)) .nil))))
/-! _law_day -/
def N_day : List Str := ["_law_script", "_law_at", "_law_town_here", "_law_most", "_law_skills_here", "_law_found", "_law_seen", "_law_k", "_law_name", "_law_skill", "_law_side", "_law_hours_here"]
def P_day : List Str := ["_law_script", "_law_at", "_law_town_here", "_law_most"]
def c_day (i_names i_draw i_hours : Nat) : CS :=
  (.seq (.asg (.tnm 4) (.call i_names (.cons (.var 0) (.cons (.var 1) (.cons (.bin false .add (.cst (.int 1)) (.call i_draw (.cons (.var 0) (.cons (.var 1) (.cons (.cst (.int 12)) .nil))))) .nil))))) (.seq (.asg (.tnm 5) (.tup (.cons (.lst true .nil) (.cons (.lst true .nil) .nil)))) (.seq (.asg (.tnm 6) (.dnew true)) (.seq (.fr (.tnm 7) (.irng1 (.bin false .mul (.call i_draw (.cons (.var 0) (.cons (.var 1) (.cons (.bin false .add (.var 3) (.cst (.int 1))) .nil)))) (.blt .int false (.cons (.cmp .NotEq (.var 2) (.lst false .nil)) .nil)))) (.seq (.asg (.tnm 8) (.idx (.idx (.var 2) (.call i_draw (.cons (.var 0) (.cons (.var 1) (.cons (.blt .len false (.cons (.var 2) .nil)) .nil))))) (.cst (.int 0)))) (.seq (.asg (.tnm 9) (.idx (.var 4) (.call i_draw (.cons (.var 0) (.cons (.var 1) (.cons (.blt .len false (.cons (.var 4) .nil)) .nil)))))) (.seq (.par [10, 11] (.cons (.call i_draw (.cons (.var 0) (.cons (.var 1) (.cons (.cst (.int 2)) .nil)))) (.cons (.call i_hours (.cons (.var 0) (.cons (.var 1) .nil))) .nil))) (.seq (.iff (.cmp .NotIn (.tup (.cons (.var 8) (.cons (.var 9) .nil))) (.var 6)) (.seq (.asg (.tsub (.var 6) (.tup (.cons (.var 8) (.cons (.var 9) .nil)))) (.cst (.bool true))) (.seq (.expr (.mth .append (.idx (.var 5) (.var 10)) (.cons (.tup (.cons (.var 8) (.cons (.var 9) (.cons (.var 11) .nil)))) .nil))) .nil)) .nil) .nil))))) (.seq (.gfr2 5) (.seq (.ret (.var 5)) .nil))))))
/-! _law_skills -/
def N_skills : List Str := ["_law_day_here", "_law_one"]
def P_skills : List Str := ["_law_day_here"]
def c_skills : CS :=
  (.seq (.ret (.blt .listK false (.cons (.blt .dictK false (.cons (.lc false [("_law_one", 1)] (.tnm 1) (.iseq (.bin false .add (.idx (.var 0) (.cst (.int 0))) (.idx (.var 0) (.cst (.int 1))))) .nil (.tup (.cons (.idx (.var 1) (.cst (.int 1))) (.cons (.cst (.bool true)) .nil)))) .nil)) .nil))) .nil)
/-! _law_prices -/
def N_prices : List Str := ["_law_script", "_law_at", "_law_town_here", "_law_day_here", "_law_found", "_law_key", "_law_small", "_law_one", "_law_skill"]
def P_prices : List Str := ["_law_script", "_law_at", "_law_town_here", "_law_day_here"]
def c_prices (i_draw i_skills : Nat) : CS :=
  (.seq (.asg (.tnm 4) (.dnew true)) (.seq (.fr (.tnm 5) (.iseq (.bin false .add (.lc false [("_law_one", 7)] (.tnm 7) (.iseq (.var 2)) .nil (.tup (.cons (.cst (.str "name")) (.cons (.idx (.var 7) (.cst (.int 0))) .nil)))) (.lc false [("_law_skill", 8)] (.tnm 8) (.iseq (.call i_skills (.cons (.var 3) .nil))) .nil (.tup (.cons (.cst (.str "skill")) (.cons (.var 8) .nil)))))) (.seq (.asg (.tnm 6) (.bin false .sub (.call i_draw (.cons (.var 0) (.cons (.var 1) (.cons (.cst (.int 5)) .nil)))) (.cst (.int 2)))) (.seq (.asg (.tsub (.var 4) (.var 5)) (.idx (.lst false (.cons (.var 6) (.cons (.var 6) (.cons (.cst (.int 0)) (.cons (.cst (.int 1)) (.cons (.bin false .mul (.var 6) (.bin false .pow (.cst (.int 10)) (.cst (.int 30)))) (.cons (.call i_draw (.cons (.var 0) (.cons (.var 1) (.cons (.bin false .pow (.cst (.int 10)) (.cst (.int 6))) .nil)))) .nil))))))) (.call i_draw (.cons (.var 0) (.cons (.var 1) (.cons (.cst (.int 6)) .nil)))))) .nil))) (.seq (.ret (.var 4)) .nil)))

abbrev iL (ns : List Int) : W := .lst (ns.map W.int)
/-- how many were drawn -/
def Ctr (S : Sto) (a : Addr) (k : Int) (m : Int) : Prop := S a = some (.lst [.int k]) ∧ 0 ≤ k ∧ k + m < 1000000000
abbrev putC (S : Sto) (a : Addr) (k : Int) : Sto := sup S a (.lst [.int k])
section
variable {ns : List Int} {a : Addr} {k : Int} {S S2 : Sto} {Q : WK} {X : XC}
def spDraw : MP.Spec := fun ws S Q _ => ∃ ns a k m, ws = [iL ns, .ref a, .int m] ∧ ns.length ≤ 63 ∧ Ctr S a k 1 ∧ 0 < m ∧ m < 2 ^ 100 ∧
  ∀ v, 0 ≤ v → v < m → Q (.int v) (putC S a (k + 1))
theorem u_draw {m : Int} (hn : ns.length ≤ 63) (ha : S a = some (.lst [.int k])) (h0 : 0 ≤ k) (h9 : k + 1 < 1000000000) (m0 : 0 < m) (m1 : m < 2 ^ 100) (e : putC S a (k + 1) = S2) (q : ∀ v, 0 ≤ v → v < m → Q (.int v) S2) : spDraw [iL ns, .ref a, .int m] S Q X := by
  subst e; exact ⟨ns, a, k, m, rfl, hn, ⟨ha, h0, h9⟩, m0, m1, q⟩
end
/-! ### names -/
/-- a name: one to eight small letters -/
structure Nme (x : Str) : Prop where
  nm : Nm 8 x
  pos : 0 < x.length
theorem cut_lo {z : Str} {p : Int} (h : 0 ≤ p) : (cutS z none (some p)).length = min p.toNat z.length := by
  rw [len_cps]
  unfold cutS
  rw [HT.sIx_none, sIx_nn h]
  have e := len_cps (x := z)
  simp only [List.drop_zero, Nat.sub_zero, List.length_take]
  rw [← e]
  omega
theorem cut_hi {z : Str} {p : Int} (h : 0 ≤ p) : (cutS z (some p) none).length = z.length - min p.toNat z.length := by
  rw [len_cps]
  unfold cutS
  rw [HT.sIx_none, sIx_nn h]
  have e := len_cps (x := z)
  simp only [List.length_take, List.length_drop]
  rw [← e]
  omega
def nmF (F : Str) (p first : Int) (j : Nat) : Str := cutS F none (some p) ++ lt ((first + 7 * (0 + (j : Int))) % 26).toNat ++ cutS F (some p) none
theorem nmF_nme {F : Str} {p first : Int} {j : Nat} (h : Nm 7 F) (hp : 0 ≤ p) : Nme (nmF F p first j) := by
  have h1 := (((h.cut none (some p)).app (lt_nm (LD.letters (first := first) (i := j)))).app (h.cut (some p) none)).low
  have hl : (nmF F p first j).length = F.length + 1 := by
    unfold nmF
    rw [app_len, app_len, cut_lo hp, cut_hi hp]
    have : (lt ((first + 7 * (0 + (j : Int))) % 26).toNat).length = 1 := rfl
    omega
  have := h.len
  exact ⟨⟨by omega, h1⟩, by omega⟩
theorem nmF_inj {F : Str} {p first : Int} {i j : Nat} (hi : i < 26) (hj : j < 26) (h : nmF F p first i = nmF F p first j) : i = j :=
  LD.letters_inj hi hj (lt_inj (put_inj h))
def spNames : MP.Spec := fun ws S Q _ => ∃ ns a k n, ws = [iL ns, .ref a, .int (n : Nat)] ∧ ns.length ≤ 63 ∧ Ctr S a k 10 ∧ n ≤ 26 ∧
  ∀ xs : List Str, xs.length = n → xs.Nodup → (∀ x ∈ xs, Nme x) → Q (.lst (xs.map W.str)) (putC S a (k + 3))
theorem nodup_map {α β : Type} {f : α → β} {xs : List α} (hn : xs.Nodup) (h : ∀ x ∈ xs, ∀ y ∈ xs, f x = f y → x = y) : (xs.map f).Nodup := by
  rw [List.Nodup, List.pairwise_map]
  exact hn.imp_of_mem fun hx hy ne e => ne (h _ hx _ hy e)
/-- hours, few or many -/
def spHours : MP.Spec := fun ws S Q _ => ∃ ns a k, ws = [iL ns, .ref a] ∧ ns.length ≤ 63 ∧ Ctr S a k 10 ∧
  ∀ h, 1 ≤ h → h ≤ 10 ^ 30 → Q (.int h) (putC S a (k + 3))
theorem u_hours {ns : List Int} {a : Addr} {k : Int} {S S2 : Sto} {Q : WK} {X : XC} (hn : ns.length ≤ 63) (ha : S a = some (.lst [.int k])) (h0 : 0 ≤ k) (h9 : k + 10 < 1000000000) (e : putC S a (k + 3) = S2) (q : ∀ v, 1 ≤ v → v ≤ 10 ^ 30 → Q (.int v) S2) : spHours [iL ns, .ref a] S Q X := by
  subst e; exact ⟨ns, a, k, rfl, hn, ⟨ha, h0, h9⟩, q⟩
end LF

set_option Elab.async false
set_option linter.all false
set_option maxRecDepth 100000
set_option maxHeartbeats 4000000
/-! LG: towns, days, papers of the laws with a list of how many were drawn. -/
namespace LG
open PySem PySem.Spec PyProof.Rows L2 MP NM DK LF

/-- a neighbour: name, purse, floor, ceiling -/
abbrev Nb := Str × Int × Int × Int
abbrev eN (x : Nb) : W := .tup [.str x.1, .int x.2.1, .int x.2.2.1, .int x.2.2.2]
structure TownOk (town : List Nb) : Prop where
  nd : (town.map (·.1)).Nodup
  nm : ∀ x ∈ town, Nme x.1
  bd : ∀ x ∈ town, -(10 ^ 30) ≤ x.2.2.1 ∧ x.2.2.1 ≤ x.2.1 ∧ x.2.1 ≤ x.2.2.2 ∧ x.2.2.2 ≤ 10 ^ 30
/-- an offer or a wish: name, skill, hours -/
abbrev En := Str × Str × Int
abbrev eO (x : En) : W := .tup [.str x.1, .str x.2.1, .int x.2.2]
structure DayOk (town : List Nb) (told : List En) : Prop where
  nd : (told.map fun x => (x.1, x.2.1)).Nodup
  nm : ∀ x ∈ told, x.1 ∈ town.map (·.1)
  sk : ∀ x ∈ told, Nme x.2.1
  bd : ∀ x ∈ told, 1 ≤ x.2.2 ∧ x.2.2 ≤ 10 ^ 30
def spTown : MP.Spec := fun ws S Q _ => ∃ ns a k n, ws = [iL ns, .ref a, .int (n : Nat)] ∧ ns.length ≤ 63 ∧ Ctr S a k 200 ∧ n ≤ 12 ∧
  ∀ (town : List Nb) k', town.length = n → TownOk town → k ≤ k' → k' ≤ k + 200 → Q (.lst (town.map eN)) (putC S a k')
def spSkills : MP.Spec := fun ws S Q _ => ∃ os us : List En, ws = [.tup [.lst (os.map eO), .lst (us.map eO)]] ∧ os.length + us.length ≤ 100 ∧
  ∀ sk : List Str, (∀ s, s ∈ sk ↔ ∃ x ∈ os ++ us, x.2.1 = s) → sk.length ≤ os.length + us.length → Q (.lst (sk.map W.str)) S
theorem prK_map {α : Type} (f : α → Str) (g : α → W) : ∀ xs : List α, prK (xs.map fun x => W.tup [.str (f x), g x]) = some (xs.map fun x => ((.inr (f x) : Key), g x))
  | [] => rfl
  | x :: xs => by
    show (keyW (.str (f x))).bind _ = _
    rw [prK_map f g xs]
    rfl
theorem strKeys : ∀ {kvs : List (Key × W)}, (∀ j ∈ kvs.map (·.1), ∃ s : Str, j = .inr s) → ∃ sk : List Str, kvs.map (·.1) = sk.map Sum.inr ∧ (kvs.map fun kv => wKey kv.1) = sk.map W.str
  | [], _ => ⟨[], rfl, rfl⟩
  | (j, w) :: kvs, h => by
    obtain ⟨sk, h1, h2⟩ := strKeys (kvs := kvs) fun j hj => h j (List.mem_cons_of_mem _ hj)
    obtain ⟨s, e⟩ := h j (List.mem_cons_self ..)
    subst e
    exact ⟨s :: sk, by rw [List.map_cons, h1]; rfl, by rw [List.map_cons, h2]; rfl⟩
end LG

set_option Elab.async false
set_option linter.all false
set_option maxRecDepth 100000
set_option maxHeartbeats 4000000
/-! LH: days and papers. -/
namespace LH
open PySem PySem.Spec PyProof.Rows L2 MP NM DK LF LG

theorem _root_.LG.DayOk.add {town : List Nb} {told told' : List En} {x : En} (h : DayOk town told) (h1 : x.1 ∈ town.map (·.1)) (h2 : Nme x.2.1) (h3 : 1 ≤ x.2.2 ∧ x.2.2 ≤ 10 ^ 30) (h4 : (x.1, x.2.1) ∉ told.map fun x => (x.1, x.2.1)) (hp : told'.Perm (x :: told)) : DayOk town told' := by
  have m : ∀ y, y ∈ told' → y = x ∨ y ∈ told := fun y hy => List.mem_cons.mp (hp.mem_iff.mp hy)
  refine ⟨?_, fun y hy => ?_, fun y hy => ?_, fun y hy => ?_⟩
  · rw [(hp.map _).nodup_iff, List.map_cons, List.nodup_cons]
    exact ⟨h4, h.nd⟩
  · rcases m y hy with rfl | hy
    · exact h1
    · exact h.nm y hy
  · rcases m y hy with rfl | hy
    · exact h2
    · exact h.sk y hy
  · rcases m y hy with rfl | hy
    · exact h3
    · exact h.bd y hy
def spDay : MP.Spec := fun ws S Q _ => ∃ (ns : List Int) (a : Addr) (k : Int) (town : List Nb) (m : Nat), ws = [iL ns, .ref a, .lst (town.map eN), .int (m : Nat)] ∧ ns.length ≤ 63 ∧ Ctr S a k 1000 ∧ m ≤ 40 ∧ TownOk town ∧ town.length ≤ 12 ∧
  ∀ (os us : List En) k', DayOk town (os ++ us) → os.length + us.length ≤ m → k ≤ k' → k' ≤ k + 500 → Q (.tup [.lst (os.map eO), .lst (us.map eO)]) (putC S a k')
theorem _root_.LF.Nme.can {x : Str} (h : Nme x) : (PyData.str x).canLay0 = true := h.nm.can
theorem pln_nb {x : Nb} (h : Nme x.1) : Pln 1 (eN x) := .tup 0 _ fun w hw => by
  simp only [List.mem_cons, List.not_mem_nil, or_false] at hw
  rcases hw with rfl | rfl | rfl | rfl
  · exact .str 0 _ h.can
  · exact .int 0 _
  · exact .int 0 _
  · exact .int 0 _
theorem pln_en {x : En} (h : Nme x.1) (h2 : Nme x.2.1) : Pln 1 (eO x) := .tup 0 _ fun w hw => by
  simp only [List.mem_cons, List.not_mem_nil, or_false] at hw
  rcases hw with rfl | rfl | rfl
  · exact .str 0 _ h.can
  · exact .str 0 _ h2.can
  · exact .int 0 _
end LH

set_option Elab.async false
set_option linter.all false
set_option maxRecDepth 100000
set_option maxHeartbeats 4000000
/-! EX: names, jobs, exchanges. -/
namespace EX
open PySem PySem.Spec PyProof.Rows L2 MP NM DK LF LG
local macro_rules
  | `(tactic| contradiction) => `(tactic| first | with_reducible refine d_in ?_ | with_reducible refine s_nil ?_ | with_reducible refine s_seq ?_ | with_reducible refine s_asg ?_ | with_reducible refine s_par ?_ | with_reducible refine s_expr ?_ | with_reducible refine s_ret ?_ | with_reducible refine s_retN ?_ | with_reducible refine s_iff ?_ | with_reducible refine s_fr ?_ | with_reducible refine s_cont ?_ | with_reducible refine s_brk ?_ | with_reducible refine s_pass ?_ | with_reducible refine s_augS ?_ | with_reducible refine e_int ?_ | with_reducible refine e_str ?_ | with_reducible refine e_bool ?_ | with_reducible refine e_none ?_ | with_reducible refine e_bin ?_ | with_reducible refine e_neg ?_ | with_reducible refine e_nt ?_ | with_reducible refine e_cmp ?_ | with_reducible refine e_chain ?_ | with_reducible refine e_an ?_ | with_reducible refine e_or ?_ | with_reducible refine an_1 ?_ | with_reducible refine an_2 ?_ | with_reducible refine or_1 ?_ | with_reducible refine or_2 ?_ | with_reducible refine e_ife ?_ | with_reducible refine e_call ?_ | with_reducible refine e_blt ?_ | with_reducible refine e_mth ?_ | with_reducible refine e_idx ?_ | with_reducible refine e_slc ?_ | with_reducible refine e_rev ?_ | with_reducible refine e_tup ?_ | with_reducible refine e_lst ?_ | with_reducible refine e_dnew ?_ | with_reducible refine e_dct ?_ | with_reducible refine e_isi ?_ | with_reducible refine e_lrg ?_ | with_reducible refine e_lzip ?_ | with_reducible refine e_stp ?_ | with_reducible refine e_sset ?_ | with_reducible refine es_n ?_ | with_reducible refine es_c ?_ | with_reducible refine o_nil ?_ | with_reducible refine o_var ?_ | with_reducible refine o_cst ?_ | with_reducible refine o_bin ?_ | with_reducible refine o_neg ?_ | with_reducible refine o_blt ?_ | with_reducible refine o_call ?_ | with_reducible refine ik ?_ | with_reducible refine ng ?_ | with_reducible refine tq_bl ?_ | with_reducible refine tq_int ?_ | with_reducible refine tq_non ?_ | with_reducible refine tq_lst ?_ | with_reducible refine tq_tup ?_ | with_reducible refine t_var ?_ | with_reducible refine t_call ?_ | with_reducible refine t_blt ?_ | with_reducible refine t_mth ?_ | with_reducible refine t_idx ?_ | with_reducible refine t_isi ?_ | with_reducible refine t_cst ?_ | with_reducible refine t_nt ?_ | with_reducible refine t_cmp ?_ | with_reducible refine t_chain ?_ | with_reducible refine t_an ?_ | with_reducible refine t_or ?_ | with_reducible refine ant_1 ?_ | with_reducible refine ant_2 ?_ | with_reducible refine ort_1 ?_ | with_reducible refine ort_2 ?_ | with_reducible refine tr_bl ?_ | with_reducible refine tr_int ?_ | with_reducible refine tr_lst ?_ | with_reducible refine tr_non ?_ | with_reducible refine c_nil ?_ | with_reducible refine c_one ?_ | with_reducible refine g_sub ?_ | with_reducible refine gs_n ?_ | with_reducible refine gs_c ?_ | with_reducible refine i_seq ?_ | with_reducible refine i_rng1 ?_ | with_reducible refine i_rng2 ?_ | with_reducible refine i_rng3 ?_ | with_reducible refine i_zip ?_ | with_reducible refine i_enm ?_ | with_reducible refine b_add ?_ | with_reducible refine b_sub ?_ | with_reducible refine c_lt ?_ | with_reducible refine c_le ?_ | with_reducible refine c_gt ?_ | with_reducible refine c_ge ?_ | with_reducible refine mk_f ?_ | with_reducible refine ref_and ?_ | with_reducible refine u_set ?_ | with_reducible refine eq_i ?_ | with_reducible refine ne_i ?_ | with_reducible refine eq_b ?_ | with_reducible refine ne_b ?_ | with_reducible refine is_b ?_ | with_reducible refine isn_b ?_ | with_reducible refine is_n ?_ | with_reducible refine isn_n ?_ | with_reducible refine e_v0 ?_ | with_reducible refine g_v0 ?_ | with_reducible refine s_u0 ?_ | with_reducible refine e_v1 ?_ | with_reducible refine g_v1 ?_ | with_reducible refine s_u1 ?_ | with_reducible refine e_v2 ?_ | with_reducible refine g_v2 ?_ | with_reducible refine s_u2 ?_ | with_reducible refine e_v3 ?_ | with_reducible refine g_v3 ?_ | with_reducible refine s_u3 ?_ | with_reducible refine e_v4 ?_ | with_reducible refine g_v4 ?_ | with_reducible refine s_u4 ?_ | with_reducible refine e_v5 ?_ | with_reducible refine g_v5 ?_ | with_reducible refine s_u5 ?_ | with_reducible refine e_v6 ?_ | with_reducible refine g_v6 ?_ | with_reducible refine s_u6 ?_ | with_reducible refine e_v7 ?_ | with_reducible refine g_v7 ?_ | with_reducible refine s_u7 ?_ | with_reducible refine e_v8 ?_ | with_reducible refine g_v8 ?_ | with_reducible refine s_u8 ?_ | with_reducible refine e_v9 ?_ | with_reducible refine g_v9 ?_ | with_reducible refine s_u9 ?_ | with_reducible refine e_v10 ?_ | with_reducible refine g_v10 ?_ | with_reducible refine s_u10 ?_ | with_reducible refine e_v11 ?_ | with_reducible refine g_v11 ?_ | with_reducible refine s_u11 ?_ | with_reducible refine e_v12 ?_ | with_reducible refine g_v12 ?_ | with_reducible refine s_u12 ?_ | with_reducible refine e_v13 ?_ | with_reducible refine g_v13 ?_ | with_reducible refine s_u13 ?_ | with_reducible refine e_v14 ?_ | with_reducible refine g_v14 ?_ | with_reducible refine s_u14 ?_ | with_reducible refine e_v15 ?_ | with_reducible refine g_v15 ?_ | with_reducible refine s_u15 ?_ | with_reducible refine e_v16 ?_ | with_reducible refine g_v16 ?_ | with_reducible refine s_u16 ?_ | with_reducible refine e_v17 ?_ | with_reducible refine g_v17 ?_ | with_reducible refine s_u17 ?_ | with_reducible refine e_v18 ?_ | with_reducible refine g_v18 ?_ | with_reducible refine s_u18 ?_ | with_reducible refine e_v19 ?_ | with_reducible refine g_v19 ?_ | with_reducible refine s_u19 ?_ | ((with_reducible refine e_lc' (ρ' := ?rr) ?hw ?_); (case hw => (dsimp only [wipeW, List.map, List.set]; exact rfl))) | ((with_reducible refine g_tup ?hl ?_); (case hl => exact rfl)) | with_reducible refine b_mod (by first | decide | omega) ?_ | ((with_reducible refine b_pow (pow_ok (by decide) (by decide) (by decide)) ?_); simp only [Int.reduceToNat, Int.reducePow]) | with_reducible refine le_and (by simp only [List.length_cons, List.length_nil]; decide) ?_ | with_reducible refine l_intB ?_ | with_reducible refine l_intI ?_ | with_reducible refine sl_f ?_ | (refine l_len (by exact rfl) (q := ?_); skip) | (refine l_list (by exact rfl) ?_; skip) | (refine ix_t (by exact rfl) ?_; skip))

/-! is_name -/
def N_is_name : List Str := ["thing", "letter"]
def P_is_name : List Str := ["thing"]
def c_is_name : CS :=
  (.seq (.iff (.or (.cons (.nt (.isi (.var 0) .str)) (.cons (.nt (.chain .LtE .LtE (.cst (.int 1)) (.blt .len false (.cons (.var 0) .nil)) (.glb "MOST_NAME" (.int 8)))) .nil))) (.seq (.ret (.cst (.bool false))) .nil) .nil) (.seq (.ret (.blt .all false (.cons (.lc false [("letter", 1)] (.tnm 1) (.iseq (.var 0)) .nil (.cmp .In (.var 1) (.glb "LETTERS" (.str "abcdefghijklmnopqrstuvwxyz")))) .nil))) .nil))
/-! is_row -/
def N_is_row : List Str := ["thing", "many"]
def P_is_row : List Str := ["thing", "many"]
def c_is_row : CS :=
  (.seq (.ret (.an (.cons (.isi (.var 0) .tup) (.cons (.cmp .Eq (.blt .len false (.cons (.var 0) .nil)) (.var 1)) .nil)))) .nil)
/-! is_job -/
def N_is_job : List Str := ["thing", "offers", "wishes", "name"]
def P_is_job : List Str := ["thing", "offers", "wishes"]
def c_is_job (i_is_row i_is_name : Nat) : CS :=
  (.seq (.iff (.or (.cons (.nt (.call i_is_row (.cons (.var 0) (.cons (.cst (.int 4)) .nil)))) (.cons (.nt (.blt .all false (.cons (.lc false [("name", 3)] (.tnm 3) (.iseq (.slc false (.var 0) .nil (.cst (.int 3)))) .nil (.call i_is_name (.cons (.var 3) .nil))) .nil))) .nil))) (.seq (.ret (.cst (.bool false))) .nil) .nil) (.seq (.iff (.or (.cons (.nt (.isi (.idx (.var 0) (.cst (.int 3))) .int)) (.cons (.isi (.idx (.var 0) (.cst (.int 3))) .bl) (.cons (.cmp .Lt (.idx (.var 0) (.cst (.int 3))) (.cst (.int 1))) .nil)))) (.seq (.ret (.cst (.bool false))) .nil) .nil) (.seq (.ret (.an (.cons (.cmp .In (.tup (.cons (.idx (.var 0) (.cst (.int 0))) (.cons (.idx (.var 0) (.cst (.int 2))) .nil))) (.var 1)) (.cons (.cmp .In (.tup (.cons (.idx (.var 0) (.cst (.int 1))) (.cons (.idx (.var 0) (.cst (.int 2))) .nil))) (.var 2)) .nil)))) .nil)))
/-! is_exchange -/
def N_is_exchange : List Str := ["town", "day", "jobs", "offers", "wishes", "purses", "giver", "taker", "skill", "hours", "one", "left", "job"]
def P_is_exchange : List Str := ["town", "day", "jobs"]
def c_is_exchange (i_is_job : Nat) : CS :=
  (.seq (.asg (.tnm 3) (.blt .dictT false (.cons (.lc false [("one", 10)] (.tnm 10) (.iseq (.idx (.var 1) (.cst (.int 0)))) .nil (.tup (.cons (.slc false (.var 10) .nil (.cst (.int 2))) (.cons (.idx (.var 10) (.cst (.int 2))) .nil)))) .nil))) (.seq (.asg (.tnm 4) (.blt .dictT false (.cons (.lc false [("one", 10)] (.tnm 10) (.iseq (.idx (.var 1) (.cst (.int 1)))) .nil (.tup (.cons (.slc false (.var 10) .nil (.cst (.int 2))) (.cons (.idx (.var 10) (.cst (.int 2))) .nil)))) .nil))) (.seq (.iff (.or (.cons (.nt (.isi (.var 2) .lst)) (.cons (.nt (.blt .all false (.cons (.lc false [("job", 12)] (.tnm 12) (.iseq (.var 2)) .nil (.call i_is_job (.cons (.var 12) (.cons (.var 3) (.cons (.var 4) .nil))))) .nil))) .nil))) (.seq (.ret (.cst (.bool false))) .nil) .nil) (.seq (.iff (.cmp .Lt (.lset (.lc false [("job", 12)] (.tnm 12) (.iseq (.var 2)) .nil (.slc false (.var 12) .nil (.cst (.int 3))))) (.blt .len false (.cons (.var 2) .nil))) (.seq (.ret (.cst (.bool false))) .nil) .nil) (.seq (.asg (.tnm 5) (.blt .dictK false (.cons (.lc false [("one", 10)] (.tnm 10) (.iseq (.var 0)) .nil (.tup (.cons (.idx (.var 10) (.cst (.int 0))) (.cons (.idx (.var 10) (.cst (.int 1))) .nil)))) .nil))) (.seq (.fr (.ttup (.cons (.tnm 6) (.cons (.tnm 7) (.cons (.tnm 8) (.cons (.tnm 9) .nil))))) (.iseq (.var 2)) (.seq (.augS (.var 3) (.tup (.cons (.var 6) (.cons (.var 8) .nil))) true (.var 9)) (.seq (.augS (.var 4) (.tup (.cons (.var 7) (.cons (.var 8) .nil))) true (.var 9)) (.seq (.augS (.var 5) (.var 6) false (.var 9)) (.seq (.augS (.var 5) (.var 7) true (.var 9)) .nil))))) (.seq (.iff (.nt (.blt .all false (.cons (.lc false [("left", 11)] (.tnm 11) (.iseq (.bin false .add (.lvals false (.var 3)) (.lvals false (.var 4)))) .nil (.cmp .GtE (.var 11) (.cst (.int 0)))) .nil))) (.seq (.ret (.cst (.bool false))) .nil) .nil) (.seq (.ret (.blt .all false (.cons (.lc false [("one", 10)] (.tnm 10) (.iseq (.var 0)) .nil (.chain .LtE .LtE (.idx (.var 10) (.cst (.int 2))) (.idx (.var 5) (.idx (.var 10) (.cst (.int 0)))) (.idx (.var 10) (.cst (.int 3))))) .nil))) .nil))))))))
/-! moved -/
def N_moved : List Str := ["jobs", "job"]
def P_moved : List Str := ["jobs"]
def c_moved : CS :=
  (.seq (.ret (.blt .sum false (.cons (.lc false [("job", 1)] (.tnm 1) (.iseq (.var 0)) .nil (.idx (.var 1) (.cst (.int 3)))) .nil))) .nil)

section
variable {Φ : Nat → MP.Spec} {ρ : MP.Env} {S : Sto} {Q : WK} {X : XC}
theorem e_glbI {x : Str} {i : Int} (q : Q (.int i) S) : (wp Φ (.glb x (.int i))).e ρ S Q X := ⟨_, rfl, q⟩
theorem e_glbS {x z : Str} (q : Q (.str z) S) : (wp Φ (.glb x (.str z))).e ρ S Q X := ⟨_, rfl, q⟩
theorem sl_t {ws : List W} {live : Bool} {lo hi : Option Int} (q : Q (.tup (cutW ws lo hi)) S) : slcW live (.tup ws) lo hi S Q := q
end
/-! ### names -/
theorem abc_low {c : Nat} : decide (c ∈ ("abcdefghijklmnopqrstuvwxyz" : Str).cps.toList) = low c := by
  rw [abc, Bool.eq_iff_iff, decide_eq_true_iff, List.mem_map]
  unfold NM.low
  rw [Bool.and_eq_true, decide_eq_true_iff, decide_eq_true_iff]
  constructor
  · rintro ⟨i, hi, rfl⟩
    have := List.mem_range.mp hi
    omega
  · intro h
    exact ⟨c - 97, List.mem_range.mpr (by omega), by omega⟩
theorem in_abc {c : Nat} {S : Sto} {Q : Bool → Prop} (q : Q (low c)) : cmpW .In (.str ⟨#[c]⟩) (.str "abcdefghijklmnopqrstuvwxyz") S Q := by
  show Q (!(Builtin.Str.occurrences ("abcdefghijklmnopqrstuvwxyz" : Str) ⟨#[c]⟩ 0 ("abcdefghijklmnopqrstuvwxyz" : Str).length 1).isEmpty)
  rw [StrLaws.found_one, abc_low]
  exact q
/-- whether a value is a name -/
def nameB : W → Bool
  | .str x => decide (1 ≤ x.length ∧ x.length ≤ 8) && x.cps.toList.all low
  | _ => false
theorem nameB_s {x : Str} : nameB (.str x) = (decide (1 ≤ x.length ∧ x.length ≤ 8) && x.cps.toList.all low) := rfl
theorem nameB_nme {x : Str} (h : Nme x) : nameB (.str x) = true := by
  unfold nameB
  rw [Bool.and_eq_true, decide_eq_true_iff]
  exact ⟨⟨h.pos, h.nm.len⟩, List.all_eq_true.mpr h.nm.low⟩
theorem nameB_str {w : W} (h : nameB w = true) : ∃ x, w = .str x ∧ Nme x := by
  cases w with
  | str x =>
    unfold nameB at h
    rw [Bool.and_eq_true, decide_eq_true_iff] at h
    exact ⟨x, rfl, ⟨h.1.2, fun c hc => List.all_eq_true.mp h.2 c hc⟩, h.1.1⟩
  | _ => cases h
def spIsName : MP.Spec := fun ws S Q _ => ∃ w k, ws = [w] ∧ kndW S w = some k ∧ (∀ x, w = .str x → x.length ≤ sizeLine) ∧ Q (.bl (nameB w)) S
theorem knd_str {S : Sto} {w : W} (h : kndW S w = some .str) : ∃ x, w = .str x := by
  cases w with
  | str x => exact ⟨x, rfl⟩
  | ref a =>
    have h : (S a).bind kndO = some .str := h
    cases e : S a with
    | none => rw [e] at h; cases h
    | some o =>
      rw [e] at h
      cases o with
      | lk o od u => cases o <;> cases h
      | _ => cases h
  | _ => cases h
theorem sub_str {k : Knd} : subK k .str = decide (k = .str) := by cases k <;> rfl
theorem ok_is_name {Φ : Nat → MP.Spec} {ws : List W} {S : Sto} {Q : WK} {X X0 : XC} (h : spIsName ws S Q X) : wps Φ (c_is_name) (startW N_is_name ws) S (dEnds Q X0) := by
  obtain ⟨w, k, rfl, hk, hl, q⟩ := h
  unfold c_is_name
  show wps Φ _ [some w, none] S (dEnds Q X0)
  repeat' contradiction
  refine ⟨k, hk, ?_⟩
  repeat' contradiction
  by_cases c : k = .str
  · subst c
    obtain ⟨x, rfl⟩ := knd_str hk
    refine iteF' rfl ?_
    repeat' contradiction
    refine l_lenS (hl x rfl) ?_
    repeat' contradiction
    refine LD.ite_d (fun c1 => ?_) (fun c1 => ?_)
    · refine e_glbI ?_
      repeat' contradiction
      refine ite_nd (fun c2 => ?_) (fun c2 => ?_)
      · repeat' contradiction
        refine d_same ?_
        have : nameB (.str x) = false := by
          rw [nameB_s, decide_eq_false (by omega)]; rfl
        rw [← this]; exact q
      · repeat' contradiction
        refine ⟨_, rfl, ?_⟩
        refine lc_mp (enc := fun c : Nat => W.str ⟨#[c]⟩) (xs := x.cps.toList) (fun c => .bl (low c)) rfl (by rw [← len_cps]; exact hl x rfl) (fun c _ K hK => ?_) ?_
        · repeat' contradiction
          refine e_glbS ?_
          exact in_abc hK
        repeat' contradiction
        refine l_all (ns := x.cps.toList.map low) (by rw [List.map_map]; rfl) ?_
        refine d_same ?_
        have : nameB (.str x) = (x.cps.toList.map low).all id := by
          rw [nameB_s, decide_eq_true (by omega), List.all_map]; rfl
        rw [← this]; exact q
    · refine iteT' rfl ?_
      repeat' contradiction
      refine d_same ?_
      have : nameB (.str x) = false := by
        rw [nameB_s, decide_eq_false (by omega)]; rfl
      rw [← this]; exact q
  · refine iteT' (by rw [sub_str, decide_eq_false c]; rfl) ?_
    refine iteT' rfl ?_
    repeat' contradiction
    refine d_same ?_
    have : nameB w = false := by
      cases w with
      | str x => cases hk; exact absurd rfl c
      | _ => rfl
    rw [← this]; exact q
end EX

set_option Elab.async false
set_option linter.all false
set_option maxRecDepth 100000
set_option maxHeartbeats 4000000
/-! EY: rows, jobs. -/
namespace EY
open PySem PySem.Spec PyProof.Rows L2 MP NM DK LF LG EX
local macro_rules
  | `(tactic| contradiction) => `(tactic| first | with_reducible refine d_in ?_ | with_reducible refine s_nil ?_ | with_reducible refine s_seq ?_ | with_reducible refine s_asg ?_ | with_reducible refine s_par ?_ | with_reducible refine s_expr ?_ | with_reducible refine s_ret ?_ | with_reducible refine s_retN ?_ | with_reducible refine s_iff ?_ | with_reducible refine s_fr ?_ | with_reducible refine s_cont ?_ | with_reducible refine s_brk ?_ | with_reducible refine s_pass ?_ | with_reducible refine s_augS ?_ | with_reducible refine e_int ?_ | with_reducible refine e_str ?_ | with_reducible refine e_bool ?_ | with_reducible refine e_none ?_ | with_reducible refine e_bin ?_ | with_reducible refine e_neg ?_ | with_reducible refine e_nt ?_ | with_reducible refine e_cmp ?_ | with_reducible refine e_chain ?_ | with_reducible refine e_an ?_ | with_reducible refine e_or ?_ | with_reducible refine an_1 ?_ | with_reducible refine an_2 ?_ | with_reducible refine or_1 ?_ | with_reducible refine or_2 ?_ | with_reducible refine e_ife ?_ | with_reducible refine e_call ?_ | with_reducible refine e_blt ?_ | with_reducible refine e_mth ?_ | with_reducible refine e_idx ?_ | with_reducible refine e_slc ?_ | with_reducible refine e_rev ?_ | with_reducible refine e_tup ?_ | with_reducible refine e_lst ?_ | with_reducible refine e_dnew ?_ | with_reducible refine e_dct ?_ | with_reducible refine e_isi ?_ | with_reducible refine e_lrg ?_ | with_reducible refine e_lzip ?_ | with_reducible refine e_stp ?_ | with_reducible refine e_sset ?_ | with_reducible refine es_n ?_ | with_reducible refine es_c ?_ | with_reducible refine o_nil ?_ | with_reducible refine o_var ?_ | with_reducible refine o_cst ?_ | with_reducible refine o_bin ?_ | with_reducible refine o_neg ?_ | with_reducible refine o_blt ?_ | with_reducible refine o_call ?_ | with_reducible refine ik ?_ | with_reducible refine ng ?_ | with_reducible refine tq_bl ?_ | with_reducible refine tq_int ?_ | with_reducible refine tq_non ?_ | with_reducible refine tq_lst ?_ | with_reducible refine tq_tup ?_ | with_reducible refine t_var ?_ | with_reducible refine t_call ?_ | with_reducible refine t_blt ?_ | with_reducible refine t_mth ?_ | with_reducible refine t_idx ?_ | with_reducible refine t_isi ?_ | with_reducible refine t_cst ?_ | with_reducible refine t_nt ?_ | with_reducible refine t_cmp ?_ | with_reducible refine t_chain ?_ | with_reducible refine t_an ?_ | with_reducible refine t_or ?_ | with_reducible refine ant_1 ?_ | with_reducible refine ant_2 ?_ | with_reducible refine ort_1 ?_ | with_reducible refine ort_2 ?_ | with_reducible refine tr_bl ?_ | with_reducible refine tr_int ?_ | with_reducible refine tr_lst ?_ | with_reducible refine tr_non ?_ | with_reducible refine c_nil ?_ | with_reducible refine c_one ?_ | with_reducible refine g_sub ?_ | with_reducible refine gs_n ?_ | with_reducible refine gs_c ?_ | with_reducible refine i_seq ?_ | with_reducible refine i_rng1 ?_ | with_reducible refine i_rng2 ?_ | with_reducible refine i_rng3 ?_ | with_reducible refine i_zip ?_ | with_reducible refine i_enm ?_ | with_reducible refine b_add ?_ | with_reducible refine b_sub ?_ | with_reducible refine c_lt ?_ | with_reducible refine c_le ?_ | with_reducible refine c_gt ?_ | with_reducible refine c_ge ?_ | with_reducible refine mk_f ?_ | with_reducible refine ref_and ?_ | with_reducible refine u_set ?_ | with_reducible refine eq_i ?_ | with_reducible refine ne_i ?_ | with_reducible refine eq_b ?_ | with_reducible refine ne_b ?_ | with_reducible refine is_b ?_ | with_reducible refine isn_b ?_ | with_reducible refine is_n ?_ | with_reducible refine isn_n ?_ | with_reducible refine e_v0 ?_ | with_reducible refine g_v0 ?_ | with_reducible refine s_u0 ?_ | with_reducible refine e_v1 ?_ | with_reducible refine g_v1 ?_ | with_reducible refine s_u1 ?_ | with_reducible refine e_v2 ?_ | with_reducible refine g_v2 ?_ | with_reducible refine s_u2 ?_ | with_reducible refine e_v3 ?_ | with_reducible refine g_v3 ?_ | with_reducible refine s_u3 ?_ | with_reducible refine e_v4 ?_ | with_reducible refine g_v4 ?_ | with_reducible refine s_u4 ?_ | with_reducible refine e_v5 ?_ | with_reducible refine g_v5 ?_ | with_reducible refine s_u5 ?_ | with_reducible refine e_v6 ?_ | with_reducible refine g_v6 ?_ | with_reducible refine s_u6 ?_ | with_reducible refine e_v7 ?_ | with_reducible refine g_v7 ?_ | with_reducible refine s_u7 ?_ | with_reducible refine e_v8 ?_ | with_reducible refine g_v8 ?_ | with_reducible refine s_u8 ?_ | with_reducible refine e_v9 ?_ | with_reducible refine g_v9 ?_ | with_reducible refine s_u9 ?_ | with_reducible refine e_v10 ?_ | with_reducible refine g_v10 ?_ | with_reducible refine s_u10 ?_ | with_reducible refine e_v11 ?_ | with_reducible refine g_v11 ?_ | with_reducible refine s_u11 ?_ | with_reducible refine e_v12 ?_ | with_reducible refine g_v12 ?_ | with_reducible refine s_u12 ?_ | with_reducible refine e_v13 ?_ | with_reducible refine g_v13 ?_ | with_reducible refine s_u13 ?_ | with_reducible refine e_v14 ?_ | with_reducible refine g_v14 ?_ | with_reducible refine s_u14 ?_ | with_reducible refine e_v15 ?_ | with_reducible refine g_v15 ?_ | with_reducible refine s_u15 ?_ | with_reducible refine e_v16 ?_ | with_reducible refine g_v16 ?_ | with_reducible refine s_u16 ?_ | with_reducible refine e_v17 ?_ | with_reducible refine g_v17 ?_ | with_reducible refine s_u17 ?_ | with_reducible refine e_v18 ?_ | with_reducible refine g_v18 ?_ | with_reducible refine s_u18 ?_ | with_reducible refine e_v19 ?_ | with_reducible refine g_v19 ?_ | with_reducible refine s_u19 ?_ | ((with_reducible refine e_lc' (ρ' := ?rr) ?hw ?_); (case hw => (dsimp only [wipeW, List.map, List.set]; exact rfl))) | ((with_reducible refine g_tup ?hl ?_); (case hl => exact rfl)) | with_reducible refine b_mod (by first | decide | omega) ?_ | ((with_reducible refine b_pow (pow_ok (by decide) (by decide) (by decide)) ?_); simp only [Int.reduceToNat, Int.reducePow]) | with_reducible refine le_and (by simp only [List.length_cons, List.length_nil]; decide) ?_ | with_reducible refine l_intB ?_ | with_reducible refine l_intI ?_ | with_reducible refine sl_f ?_ | (refine l_len (by exact rfl) (q := ?_); skip) | (refine l_list (by exact rfl) ?_; skip) | (refine ix_t (by exact rfl) ?_; skip))

/-- whether a value is a tuple of so many -/
def rowB (w : W) (n : Int) : Bool := match w with
  | .tup us => decide ((us.length : Int) = n)
  | _ => false
def spIsRow : MP.Spec := fun ws S Q _ => ∃ w k n, ws = [w, .int n] ∧ kndW S w = some k ∧ Q (.bl (rowB w n)) S
theorem knd_tup {S : Sto} {w : W} (h : kndW S w = some .tup) : ∃ us, w = .tup us := by
  cases w with
  | tup us => exact ⟨us, rfl⟩
  | ref a =>
    have h : (S a).bind kndO = some .tup := h
    cases e : S a with
    | none => rw [e] at h; cases h
    | some o =>
      rw [e] at h
      cases o with
      | lk o od u => cases o <;> cases h
      | _ => cases h
  | _ => cases h
theorem sub_tup {k : Knd} : subK k .tup = decide (k = .tup) := by cases k <;> rfl
theorem ok_is_row {Φ : Nat → MP.Spec} {ws : List W} {S : Sto} {Q : WK} {X X0 : XC} (h : spIsRow ws S Q X) : wps Φ (c_is_row) (startW N_is_row ws) S (dEnds Q X0) := by
  obtain ⟨w, k, n, rfl, hk, q⟩ := h
  unfold c_is_row
  show wps Φ _ [some w, some (.int n)] S (dEnds Q X0)
  repeat' contradiction
  refine ⟨k, hk, ?_⟩
  repeat' contradiction
  by_cases c : k = .tup
  · subst c
    obtain ⟨us, rfl⟩ := knd_tup hk
    refine iteT' rfl ?_
    repeat' contradiction
    refine d_same ?_
    exact q
  · refine iteF' (by rw [sub_tup, decide_eq_false c]) ?_
    refine d_same ?_
    have e1 : subK k .tup = false := by rw [sub_tup, decide_eq_false c]
    have e2 : rowB w n = false := by
      cases w with
      | tup us => cases hk; exact absurd rfl c
      | _ => rfl
    rw [e1, ← e2]; exact q
/-! ### jobs -/
abbrev K2 := Str × Str
abbrev k2 (x : K2) : List Key := [.inr x.1, .inr x.2]
theorem k2_inj {x y : K2} (h : k2 x = k2 y) : x = y := by
  injection h with h1 h2
  injection h2 with h2 _
  injection h1 with h1
  injection h2 with h2
  exact Prod.ext h1 h2
/-- a thing that may stand for a job: flat things within -/
structure JT (w : W) : Prop where
  noref : ∀ a, w ≠ .ref a
  flat : ∀ us, w = .tup us → us.length ≤ 60 ∧ ∀ u ∈ us, flatW u = true ∧ ∀ x, u = .str x → x.length ≤ 1000
theorem knd_nr {S : Sto} {w : W} (h : ∀ a, w ≠ .ref a) : ∃ k, kndW S w = some k := by
  cases w with
  | ref a => exact absurd rfl (h a)
  | _ => exact ⟨_, rfl⟩
theorem flat_nr {w : W} (h : flatW w = true) : ∀ a, w ≠ .ref a := fun a e => by rw [e] at h; cases h
/-- a job by keys that are there -/
def JobP (ko ku : List K2) (w : W) : Prop := ∃ (g t s : Str) (h : Int), w = .tup [.str g, .str t, .str s, .int h] ∧ 1 ≤ h ∧ (g, s) ∈ ko ∧ (t, s) ∈ ku
def spIsJob : MP.Spec := fun ws S Q _ => ∃ (w : W) (po pu : Addr) (kvo kvu : List (List Key × W)) (ko ku : List K2), ws = [w, .ref po, .ref pu] ∧ S po = some (.dt kvo) ∧ S pu = some (.dt kvu) ∧ kvo.map (·.1) = ko.map k2 ∧ kvu.map (·.1) = ku.map k2 ∧ JT w ∧
  (∀ x ∈ ko, Nme x.1 ∧ Nme x.2) ∧ (∀ x ∈ ku, Nme x.1 ∧ Nme x.2) ∧ ∀ b : Bool, (b = true ↔ JobP ko ku w) → Q (.bl b) S
theorem has_k2 {kvs : List (List Key × W)} {ks : List K2} {x : K2} (e : kvs.map (·.1) = ks.map k2) : (getK kvs (k2 x)).isSome = true ↔ x ∈ ks := by
  rw [Option.isSome_iff_exists, get_some, e, List.mem_map]
  exact ⟨fun ⟨y, hy, h⟩ => k2_inj h ▸ hy, fun h => ⟨x, h, rfl⟩⟩
theorem four {us : List W} (h : us.length = 4) : ∃ a b c d, us = [a, b, c, d] := by
  obtain _ | ⟨a, _ | ⟨b, _ | ⟨c, _ | ⟨d, _ | ⟨e, r⟩⟩⟩⟩⟩ := us <;> simp at h
  exact ⟨a, b, c, d, rfl⟩
theorem and3 {a b c : Bool} : [a, b, c].all id = true ↔ a = true ∧ b = true ∧ c = true := by cases a <;> cases b <;> cases c <;> decide
/-! ### how many hours jobs move -/
abbrev J4 := Str × Str × Str × Int
abbrev eJ4 (j : J4) : W := .tup [.str j.1, .str j.2.1, .str j.2.2.1, .int j.2.2.2]
def spMoved : MP.Spec := fun ws S Q _ => ∃ js : List J4, ws = [.lst (js.map eJ4)] ∧ js.length ≤ 1000 ∧ Q (.int (js.map fun j => j.2.2.2).sum) S
end EY

set_option Elab.async false
set_option linter.all false
set_option maxRecDepth 100000
set_option maxHeartbeats 4000000
/-! EZ: whether jobs are an exchange. -/
namespace EZ
open PySem PySem.Spec PyProof.Rows L2 MP NM DK LF LG EX EY

abbrev key (x : En) : K2 := (x.1, x.2.1)
/-- a side's dict, the hours by F -/
abbrev kF (os : List En) (F : K2 → Int) : List (List Key × W) := os.map fun x => (k2 (key x), W.int (F (key x)))
/-- the hours as they were -/
def hrs (os : List En) (k : K2) : Int := ((os.find? fun x => decide (key x = k)).map fun x => x.2.2).getD 0
theorem hrs_of {os : List En} (nd : (os.map key).Nodup) {x : En} (hx : x ∈ os) : hrs os (key x) = x.2.2 := by
  induction os with
  | nil => cases hx
  | cons y os ih =>
    rw [List.map_cons, List.nodup_cons] at nd
    unfold hrs
    rw [List.find?_cons]
    by_cases e : key y = key x
    · rw [decide_eq_true e]
      rcases List.mem_cons.mp hx with rfl | hx
      · rfl
      · exact absurd (List.mem_map.mpr ⟨x, hx, e.symm⟩) nd.1
    · rw [decide_eq_false e]
      rcases List.mem_cons.mp hx with rfl | hx
      · exact absurd rfl e
      · exact ih nd.2 hx
theorem kF_keys {os : List En} {F : K2 → Int} : (kF os F).map (·.1) = (os.map key).map k2 := by rw [List.map_map, List.map_map]; rfl
theorem kF_mem {os : List En} {F : K2 → Int} {k : K2} : k2 k ∈ (kF os F).map (·.1) ↔ k ∈ os.map key := by
  rw [kF_keys, List.mem_map]
  exact ⟨fun ⟨y, hy, h⟩ => k2_inj h ▸ hy, fun h => ⟨k, h, rfl⟩⟩
theorem kF_get {os : List En} {F : K2 → Int} {k : K2} (h : k ∈ os.map key) : getK (kF os F) (k2 k) = some (.int (F k)) := by
  induction os with
  | nil => cases h
  | cons y os ih =>
    rw [show kF (y :: os) F = (k2 (key y), W.int (F (key y))) :: kF os F from rfl, get_cons]
    by_cases e : key y = k
    · rw [if_pos (by show k2 (key y) = k2 k; rw [e])]
      show some (W.int (F (key y))) = _
      rw [e]
    · rw [if_neg fun z => e (k2_inj z)]
      exact ih ((List.mem_cons.mp h).elim (fun z => absurd z.symm e) id)
theorem kF_set {os : List En} {F : K2 → Int} {k : K2} {v : Int} (h : k ∈ os.map key) : setK (kF os F) (k2 k) (.int v) = kF os (fun j => if j = k then v else F j) := by
  unfold setK
  rw [if_pos (any_iff.mpr (kF_mem.mpr h)), List.map_map]
  refine List.map_congr_left fun x _ => ?_
  show (if k2 (key x) = k2 k then (k2 (key x), W.int v) else (k2 (key x), W.int (F (key x)))) = (k2 (key x), W.int (if key x = k then v else F (key x)))
  by_cases e : key x = k
  · rw [if_pos (by rw [e]), if_pos e]
  · rw [if_neg (fun z => e (k2_inj z)), if_neg e]
theorem nd_k2 {os : List En} (nd : (os.map key).Nodup) : ((os.map fun x : En => (k2 (key x), W.int x.2.2)).map (·.1)).Nodup := by
  have e : (os.map fun x : En => (k2 (key x), W.int x.2.2)).map (·.1) = (os.map key).map k2 := by rw [List.map_map, List.map_map]; rfl
  rw [e]
  exact nodup_map nd fun x _ y _ e => k2_inj e
theorem kF_new {os : List En} (nd : (os.map key).Nodup) : putsW [] (os.map fun x => (k2 (key x), W.int x.2.2)) = kF os (hrs os) := by
  rw [puts_new (acc := []) (by rw [List.nil_append]; exact nd_k2 nd), List.nil_append]
  exact List.map_congr_left fun x hx => by rw [hrs_of nd hx]
theorem prT_side (os : List En) : prT (os.map fun x => W.tup [.tup [.str x.1, .str x.2.1], .int x.2.2]) = some (os.map fun x => (k2 (key x), W.int x.2.2)) := by
  induction os with
  | nil => rfl
  | cons x os ih =>
    show ((keysW [.str x.1, .str x.2.1]).bind fun k => (prT (os.map fun x => W.tup [.tup [.str x.1, .str x.2.1], .int x.2.2])).map ((k, W.int x.2.2) :: ·)) = _
    rw [ih]; rfl
/-- purses by name -/
abbrev kP (town : List Nb) (P : Str → Int) : List (Key × W) := town.map fun x => (Sum.inr x.1, W.int (P x.1))
def prs (town : List Nb) (k : Str) : Int := ((town.find? fun x => decide (x.1 = k)).map fun x => x.2.1).getD 0
theorem prs_of {town : List Nb} (nd : (town.map (·.1)).Nodup) {x : Nb} (hx : x ∈ town) : prs town x.1 = x.2.1 := by
  induction town with
  | nil => cases hx
  | cons y os ih =>
    rw [List.map_cons, List.nodup_cons] at nd
    unfold prs
    rw [List.find?_cons]
    by_cases e : y.1 = x.1
    · rw [decide_eq_true e]
      rcases List.mem_cons.mp hx with rfl | hx
      · rfl
      · exact absurd (List.mem_map.mpr ⟨x, hx, e.symm⟩) nd.1
    · rw [decide_eq_false e]
      rcases List.mem_cons.mp hx with rfl | hx
      · exact absurd rfl e
      · exact ih nd.2 hx
theorem inr_inj {x y : Str} (h : (Sum.inr x : Key) = .inr y) : x = y := by injection h
theorem kP_mem {town : List Nb} {P : Str → Int} {k : Str} : (Sum.inr k : Key) ∈ (kP town P).map (·.1) ↔ k ∈ town.map (·.1) := by
  rw [List.map_map, List.mem_map, List.mem_map]
  exact ⟨fun ⟨y, hy, h⟩ => ⟨y, hy, inr_inj h⟩, fun ⟨y, hy, h⟩ => ⟨y, hy, by rw [← h]; rfl⟩⟩
theorem kP_get {town : List Nb} {P : Str → Int} {k : Str} (h : k ∈ town.map (·.1)) : getK (kP town P) (.inr k) = some (.int (P k)) := by
  induction town with
  | nil => cases h
  | cons y os ih =>
    rw [show kP (y :: os) P = ((Sum.inr y.1 : Key), W.int (P y.1)) :: kP os P from rfl, get_cons]
    by_cases e : y.1 = k
    · rw [if_pos (by show (Sum.inr y.1 : Key) = .inr k; rw [e])]
      show some (W.int (P y.1)) = _
      rw [e]
    · rw [if_neg fun z => e (inr_inj z)]
      exact ih ((List.mem_cons.mp h).elim (fun z => absurd z.symm e) id)
theorem kP_set {town : List Nb} {P : Str → Int} {k : Str} {v : Int} (h : k ∈ town.map (·.1)) : setK (kP town P) (.inr k) (.int v) = kP town (fun j => if j = k then v else P j) := by
  unfold setK
  rw [if_pos (any_iff.mpr (kP_mem.mpr h)), List.map_map]
  refine List.map_congr_left fun x _ => ?_
  show (if (Sum.inr x.1 : Key) = .inr k then ((Sum.inr x.1 : Key), W.int v) else (.inr x.1, W.int (P x.1))) = (.inr x.1, W.int (if x.1 = k then v else P x.1))
  by_cases e : x.1 = k
  · rw [if_pos (by rw [e]), if_pos e]
  · rw [if_neg (fun z => e (inr_inj z)), if_neg e]
theorem kP_new {town : List Nb} (nd : (town.map (·.1)).Nodup) : putsW [] (town.map fun x => ((Sum.inr x.1 : Key), W.int x.2.1)) = kP town (prs town) := by
  have e : (town.map fun x => ((Sum.inr x.1 : Key), W.int x.2.1)).map (·.1) = (town.map (·.1)).map Sum.inr := by rw [List.map_map, List.map_map]; rfl
  rw [puts_new (acc := []) (by
    rw [List.nil_append, e]
    exact nodup_map nd fun x _ y _ e => inr_inj e), List.nil_append]
  exact List.map_congr_left fun x hx => by rw [prs_of nd hx]
/-! ### what is an exchange -/
/-- hours off a key of one side, by jobs -/
def spent (f : J4 → K2) (js : List J4) (k : K2) : Int := (js.map fun j => if f j = k then j.2.2.2 else 0).sum
abbrev gv (j : J4) : K2 := (j.1, j.2.2.1)
abbrev tk (j : J4) : K2 := (j.2.1, j.2.2.1)
/-- what comes to a purse -/
def come (js : List J4) (n : Str) : Int := (js.map fun j => (if j.1 = n then j.2.2.2 else 0) - (if j.2.1 = n then j.2.2.2 else 0)).sum
structure Ex (town : List Nb) (os us : List En) (js : List J4) : Prop where
  job : ∀ j ∈ js, 1 ≤ j.2.2.2 ∧ gv j ∈ os.map key ∧ tk j ∈ us.map key
  nd : (js.map fun j => ([.inr j.1, .inr j.2.1, .inr j.2.2.1] : List Key)).Nodup
  off : ∀ x ∈ os, spent gv js (key x) ≤ x.2.2
  wsh : ∀ x ∈ us, spent tk js (key x) ≤ x.2.2
  pur : ∀ x ∈ town, x.2.2.1 ≤ x.2.1 + come js x.1 ∧ x.2.1 + come js x.1 ≤ x.2.2.2
def ExW (town : List Nb) (os us : List En) (J : W) : Prop := ∃ js : List J4, J = .lst (js.map eJ4) ∧ Ex town os us js
structure JJ (m : Nat) (J : W) : Prop where
  noref : ∀ a, J ≠ .ref a
  lst : ∀ ws, J = .lst ws → ws.length < m ∧ ∀ w ∈ ws, JT w
def spEx : MP.Spec := fun ws S Q _ => ∃ (town : List Nb) (os us : List En) (J : W), ws = [.lst (town.map eN), .tup [.lst (os.map eO), .lst (us.map eO)], J] ∧ TownOk town ∧ DayOk town (os ++ us) ∧ town.length ≤ 12 ∧ os.length + us.length ≤ 40 ∧ JJ 256 J ∧
  ∀ b : Bool, (b = true ↔ ExW town os us J) → Q (.bl b) S
theorem nd_app {os us : List En} (h : ((os ++ us).map key).Nodup) : (os.map key).Nodup ∧ (us.map key).Nodup := by
  rw [List.map_append, List.nodup_append] at h
  exact ⟨h.1, h.2.1⟩
theorem jobs_of : ∀ {ws : List W} {ko ku : List K2}, (∀ w ∈ ws, JobP ko ku w) → ∃ js : List J4, ws = js.map eJ4 ∧ ∀ j ∈ js, 1 ≤ j.2.2.2 ∧ gv j ∈ ko ∧ tk j ∈ ku
  | [], _, _, _ => ⟨[], rfl, fun _ h => nomatch h⟩
  | w :: ws, ko, ku, h => by
    obtain ⟨js, rfl, h2⟩ := jobs_of (ws := ws) fun u hu => h u (List.mem_cons_of_mem _ hu)
    obtain ⟨g, t, s, n, rfl, h3, h4, h5⟩ := h w List.mem_cons_self
    exact ⟨(g, t, s, n) :: js, rfl, fun j hj => (List.mem_cons.mp hj).elim (fun e => by rw [e]; exact ⟨h3, h4, h5⟩) (h2 j)⟩
theorem eJ4_inj {j k : J4} (h : eJ4 j = eJ4 k) : j = k := by
  injection h with h
  injection h with h1 h
  injection h with h2 h
  injection h with h3 h
  injection h with h4 _
  injection h1 with h1; injection h2 with h2; injection h3 with h3; injection h4 with h4
  exact Prod.ext h1 (Prod.ext h2 (Prod.ext h3 h4))
theorem maps_inj : ∀ {js ks : List J4}, js.map eJ4 = ks.map eJ4 → js = ks
  | [], [], _ => rfl
  | [], _ :: _, h => by cases h
  | _ :: _, [], h => by cases h
  | j :: js, k :: ks, h => by
    rw [List.map_cons, List.map_cons] at h
    injection h with h1 h2
    rw [eJ4_inj h1, maps_inj h2]
theorem tupsW_3 (js : List J4) : tupsW (js.map fun j => W.tup [.str j.1, .str j.2.1, .str j.2.2.1]) = some (js.map fun j => [.inr j.1, .inr j.2.1, .inr j.2.2.1]) := by
  induction js with
  | nil => rfl
  | cons j js ih =>
    show ((keysW [.str j.1, .str j.2.1, .str j.2.2.1]).bind fun k => (tupsW (js.map fun j => W.tup [.str j.1, .str j.2.1, .str j.2.2.1])).map (k :: ·)) = _
    rw [ih]; rfl
theorem prK_town (town : List Nb) : prK (town.map fun x => W.tup [.str x.1, .int x.2.1]) = some (town.map fun x => ((Sum.inr x.1 : Key), W.int x.2.1)) := by
  induction town with
  | nil => rfl
  | cons x os ih =>
    show ((keyW (.str x.1)).bind fun k => (prK (os.map fun x => W.tup [.str x.1, .int x.2.1])).map ((k, W.int x.2.1) :: ·)) = _
    rw [ih]; rfl
section
variable {Φ : Nat → MP.Spec} {ρ : MP.Env} {S : Sto} {Q : WK} {X : XC} {a : CE}
/-- what len(set(..)) asks -/
def setK' (Q : WK) : WK := fun x S1 => ∃ ws ks, rdL S1 x = some ws ∧ tupsW ws = some ks ∧ ws.length < 256 ∧ ∀ L : List (List Key), L.Nodup → (∀ k, k ∈ L ↔ k ∈ ks) → Q (.int L.length) S1
theorem e_lset (h : (wp Φ a).e ρ S (setK' Q) X) : (wp Φ (.lset a)).e ρ S Q X := h
theorem l_set {x : W} {ws : List W} {ks : List (List Key)} (h1 : rdL S x = some ws) (h2 : tupsW ws = some ks) (h3 : ws.length < 256) (q : ∀ n : Nat, n ≤ ks.length → (n = ks.length ↔ ks.Nodup) → Q (.int n) S) : setK' Q x S :=
  ⟨ws, ks, h1, h2, h3, fun L nd hL => let z := MS.len_lt nd hL; q L.length z.1 z.2⟩
theorem e_lvals {live : Bool} (h : (wp Φ a).e ρ S (fun x S1 => ∃ p kvs, x = .ref p ∧ (S1 p).bind obT = some kvs ∧ mkL live (kvs.map (·.2)) S1 Q) X) : (wp Φ (.lvals live a)).e ρ S Q X := h
end
end EZ

set_option Elab.async false
set_option linter.all false
set_option maxRecDepth 100000
set_option maxHeartbeats 4000000
/-! EZ2: is_exchange. -/
namespace EZ
open PySem PySem.Spec PyProof.Rows L2 MP NM DK LF LG EX EY

theorem spent_take {f : J4 → K2} {js : List J4} {i : Nat} {j : J4} {k : K2} (h : js[i]? = some j) : spent f (js.take (i + 1)) k = spent f (js.take i) k + if f j = k then j.2.2.2 else 0 := by
  unfold spent
  rw [List.take_add_one, h, List.map_append, List.sum_append]
  simp
theorem come_take {js : List J4} {i : Nat} {j : J4} {n : Str} (h : js[i]? = some j) : come (js.take (i + 1)) n = come (js.take i) n + ((if j.1 = n then j.2.2.2 else 0) - (if j.2.1 = n then j.2.2.2 else 0)) := by
  unfold come
  rw [List.take_add_one, h, List.map_append, List.sum_append]
  simp
theorem all_map {α : Type} {xs : List α} {f : α → Bool} : (xs.map f).all id = true ↔ ∀ x ∈ xs, f x = true := by
  rw [List.all_map, List.all_eq_true]; rfl
end EZ

set_option Elab.async false
set_option linter.all false
set_option maxRecDepth 100000
set_option maxHeartbeats 4000000
/-! ST: more short steps: sorted numbers, a value in a list of plain ones, lists compared as data. -/
namespace ST
open PySem PySem.Spec PyProof.Rows L2 MP NM DK
theorem datL_map : ∀ ws : List W, datL ws = ws.map datW
  | [] => rfl
  | w :: ws => by
    show datW w :: datL ws = _
    rw [datL_map ws]; rfl
theorem any_pln {n m : Nat} {x : W} {ws : List W} (hx : Pln n x) (hw : ∀ w ∈ ws, Pln m w) : (datL ws).any (fun z => PyData.eqv z (datW x)) = true ↔ x ∈ ws := by
  rw [datL_map, List.any_eq_true]
  constructor
  · rintro ⟨d, hd, e⟩
    obtain ⟨w, hm, rfl⟩ := List.mem_map.mp hd
    rw [← ((hw w hm).eqv hx).mp e]; exact hm
  · intro h
    exact ⟨_, List.mem_map.mpr ⟨x, h, rfl⟩, ((hw x h).eqv (hw x h)).mpr rfl⟩
section
variable {S : Sto} {x y : W} {ws : List W} {n m : Nat} {Q : Bool → Prop}
theorem in_lp (hr : rdL S y = some ws) (hx : Pln n x) (hw : ∀ w ∈ ws, Pln m w) (q : ∀ b : Bool, (b = true ↔ x ∈ ws) → Q b) (hn : n ≤ 60 := by decide) (hm : m ≤ 60 := by decide) : cmpW .In x y S Q := by
  have h : (∃ ws d ds, rdL S y = some ws ∧ Vw S x d ∧ VwL S ws ds ∧ SeqAt.shaped d = true ∧ SeqAt.shaped (.list ds) = true ∧ Q (ds.any fun z => PyData.eqv z d)) :=
    ⟨ws, datW x, datL ws, hr, hx.vw, VwL.of fun w h => (hw w h).vw, hx.shaped (by omega), (Pln.lst m ws hw).shaped (by omega), q _ (any_pln hx hw)⟩
  cases y with
  | ref a => cases x <;> exact .inl h
  | lst us => cases x <;> exact .inl h
  | _ => cases hr
theorem notin_lp (hr : rdL S y = some ws) (hx : Pln n x) (hw : ∀ w ∈ ws, Pln m w) (q : ∀ b : Bool, (b = true ↔ x ∉ ws) → Q b) (hn : n ≤ 60 := by decide) (hm : m ≤ 60 := by decide) : cmpW .NotIn x y S Q := by
  have h : (∃ ws d ds, rdL S y = some ws ∧ Vw S x d ∧ VwL S ws ds ∧ SeqAt.shaped d = true ∧ SeqAt.shaped (.list ds) = true ∧ Q !(ds.any fun z => PyData.eqv z d)) :=
    ⟨ws, datW x, datL ws, hr, hx.vw, VwL.of fun w h => (hw w h).vw, hx.shaped (by omega), (Pln.lst m ws hw).shaped (by omega), q _ (by
      have := any_pln hx hw
      rw [Bool.not_eq_true', ← Bool.not_eq_true, this])⟩
  cases y with
  | ref a => cases x <;> exact .inl h
  | lst us => cases x <;> exact .inl h
  | _ => cases hr
end
/-! ### sorted numbers -/
theorem dLe_int (a b : Int) : dLe (W.int a, .int a) (W.int b, .int b) = decide (a ≤ b) := by
  have := congrFun (congrFun (PySem.W.dataLe_int (fun z : Int => z)) a) b
  exact this
theorem vw_ints {S : Sto} : ∀ is : List Int, VwL S (is.map W.int) (is.map PyData.int)
  | [] => .nil
  | i :: is => .cons (.int i) (vw_ints is)
theorem can_ints : ∀ is : List Int, PyData.canLayAll0 (is.map PyData.int) = true
  | [] => rfl
  | i :: is => can_ints is
theorem dep_ints : ∀ is : List Int, PyData.depthAll (is.map PyData.int) = 0
  | [] => rfl
  | i :: is => by
    show max 0 (PyData.depthAll (is.map PyData.int)) = 0
    rw [dep_ints is]; rfl
theorem zip_mp {α β γ : Type} (f : α → β) (g : α → γ) : ∀ xs : List α, (xs.map f).zip (xs.map g) = xs.map fun x => (f x, g x)
  | [] => rfl
  | x :: xs => by rw [List.map_cons, List.map_cons, List.zip_cons_cons, zip_mp f g xs]; rfl
theorem l_sortI {S : Sto} {x : W} {is : List Int} {Q : WK} (h : rdL S x = some (is.map W.int)) (q : ∀ ys : List Int, ys.Perm is → ys.Pairwise (fun a b => a ≤ b) → Q (.lst (ys.map W.int)) S) : bltW false .sortD [x] S Q := by
  refine ⟨_, _, h, vw_ints is, ?_, .inr ?_, ?_, mk_f ?_⟩
  · intro x hx y hy
    obtain ⟨a, _, rfl⟩ := List.mem_map.mp hx
    obtain ⟨b, _, rfl⟩ := List.mem_map.mp hy
    rfl
  · intro x hx
    obtain ⟨a, _, rfl⟩ := List.mem_map.mp hx
    exact ⟨fun e => (by cases e), fun xs e => (by cases e)⟩
  · show (PyData.canLayAll0 (is.map PyData.int) && decide (PyData.depthAll (is.map PyData.int) + 1 ≤ 64)) = true
    rw [can_ints, dep_ints]; rfl
  · have e : sortW (is.map W.int) (is.map PyData.int) = (is.mergeSort fun a b => decide (a ≤ b)).map W.int := by
      unfold sortW
      rw [zip_mp, ← List.map_mergeSort (r := fun a b : Int => decide (a ≤ b)) (f := fun i => (W.int i, PyData.int i)) (fun a _ b _ => (dLe_int a b).symm), List.map_map]
      rfl
    rw [e]
    refine q _ (List.mergeSort_perm _ _) ?_
    refine List.Pairwise.imp (fun h => of_decide_eq_true h) (List.pairwise_mergeSort (fun a b c h1 h2 => ?_) (fun a b => ?_) is)
    · have h1 := of_decide_eq_true h1
      have h2 := of_decide_eq_true h2
      exact decide_eq_true (Int.le_trans h1 h2)
    · rw [Bool.or_eq_true, decide_eq_true_iff, decide_eq_true_iff]; omega
end ST

set_option Elab.async false
set_option linter.all false
set_option maxRecDepth 100000
set_option maxHeartbeats 4000000
/-! ST2: truths in lists; data that is equal to itself; sums of what is picked. -/
namespace ST
open PySem PySem.Spec PyProof.Rows L2 MP NM DK
/-- plain values, truths too -/
inductive PlB : Nat → W → Prop
  | non (n : Nat) : PlB n .non
  | bl (n : Nat) (b : Bool) : PlB n (.bl b)
  | int (n : Nat) (i : Int) : PlB n (.int i)
  | str (n : Nat) (x : Str) : (PyData.str x).canLay0 = true → PlB n (.str x)
  | tup (n : Nat) (ws : List W) : (∀ w ∈ ws, PlB n w) → PlB (n + 1) (.tup ws)
  | lst (n : Nat) (ws : List W) : (∀ w ∈ ws, PlB n w) → PlB (n + 1) (.lst ws)
section
variable {n m : Nat} {w : W} {S : Sto}
theorem PlB.vw (h : PlB n w) : Vw S w (datW w) := by
  induction h with
  | non => exact .non
  | bl => exact .bl _
  | int => exact .int _
  | str => exact .str _
  | tup n ws _ ih => exact .tup (VwL.of ih)
  | lst n ws _ ih => exact .lst (VwL.of ih)
theorem PlB.can (h : PlB n w) : (datW w).canLay0 = true := by
  induction h with
  | non => rfl
  | bl => rfl
  | int => rfl
  | str n x h => exact h
  | tup n ws _ ih => exact can_all ih
  | lst n ws _ ih => exact can_all ih
theorem PlB.dep (h : PlB n w) : (datW w).depth ≤ n := by
  induction h with
  | non => exact Nat.zero_le _
  | bl => exact Nat.zero_le _
  | int => exact Nat.zero_le _
  | str n x h => exact Nat.zero_le _
  | tup n ws _ ih => exact Nat.succ_le_succ (dep_all ih)
  | lst n ws _ ih => exact Nat.succ_le_succ (dep_all ih)
theorem PlB.shaped (h : PlB n w) (hn : n ≤ 64) : SeqAt.shaped (datW w) = true := by
  show ((datW w).canLay0 && decide ((datW w).depth ≤ 64)) = true
  rw [h.can, decide_eq_true (Nat.le_trans h.dep hn)]; rfl
theorem self_all : ∀ {xs : List W}, (∀ x ∈ xs, PyData.eqv (datW x) (datW x) = true) → PyData.eqvAll (datL xs) (datL xs) = true
  | [], _ => rfl
  | x :: xs, h => by
    show (PyData.eqv (datW x) (datW x) && PyData.eqvAll (datL xs) (datL xs)) = true
    rw [h x (List.mem_cons_self ..), self_all fun y hy => h y (List.mem_cons_of_mem _ hy)]; rfl
theorem PlB.self (h : PlB n w) : PyData.eqv (datW w) (datW w) = true := by
  induction h with
  | non => rfl
  | bl n b => exact beq_self_eq_true b
  | int n i => exact beq_self_eq_true i
  | str n x _ => exact beq_self_eq_true x
  | tup n ws _ ih => exact self_all ih
  | lst n ws _ ih => exact self_all ih
theorem ne_self (h : PlB n w) {Q : Bool → Prop} (q : Q false) (hn : n ≤ 64 := by decide) : cmpW .NotEq w w S Q := by
  have z : eqWk w w S fun b => Q !b := ⟨_, _, h.vw, h.vw, h.shaped hn, h.shaped hn, by rw [h.self]; exact q⟩
  cases w <;> exact z
theorem Pln.b (h : Pln n w) : PlB n w := by
  induction h with
  | non => exact .non _
  | int => exact .int _ _
  | str n x h => exact .str _ _ h
  | tup n ws _ ih => exact .tup _ _ ih
  | lst n ws _ ih => exact .lst _ _ ih
theorem PlB.up (h : PlB n w) (hm : n ≤ m) : PlB m w := by
  induction h generalizing m with
  | non => exact .non _
  | bl => exact .bl _ _
  | int => exact .int _ _
  | str n x h => exact .str _ _ h
  | tup n ws _ ih =>
    obtain ⟨k, rfl⟩ : ∃ k, m = k + 1 := ⟨m - 1, by omega⟩
    exact .tup _ _ fun w hw => ih w hw (by omega)
  | lst n ws _ ih =>
    obtain ⟨k, rfl⟩ : ∃ k, m = k + 1 := ⟨m - 1, by omega⟩
    exact .lst _ _ fun w hw => ih w hw (by omega)
end
theorem in_bls {x : Bool} {bs : List Bool} {S : Sto} {Q : Bool → Prop} (q : ∀ b : Bool, (b = true ↔ x ∈ bs) → Q b) : cmpW .In (.bl x) (.lst (bs.map W.bl)) S Q := by
  have pl : PlB 1 (.lst (bs.map W.bl)) := .lst 0 _ fun w hw => by
    obtain ⟨b, _, rfl⟩ := List.mem_map.mp hw
    exact .bl 0 b
  refine .inl ⟨_, .bool x, datL (bs.map W.bl), rfl, .bl x, VwL.of fun w hw => ?_, rfl, pl.shaped (by decide), q _ ?_⟩
  · obtain ⟨b, _, rfl⟩ := List.mem_map.mp hw
    exact .bl b
  · rw [datL_map, List.any_eq_true]
    constructor
    · rintro ⟨d, hd, e⟩
      obtain ⟨w, hw, rfl⟩ := List.mem_map.mp hd
      obtain ⟨b, hb, rfl⟩ := List.mem_map.mp hw
      have e : (b == x) = true := e
      rw [← eq_of_beq e]; exact hb
    · intro h
      exact ⟨.bool x, List.mem_map.mpr ⟨.bl x, List.mem_map.mpr ⟨x, h, rfl⟩, rfl⟩, beq_self_eq_true x⟩
theorem sum_filter {α : Type} (p : α → Bool) (f : α → Int) : ∀ xs : List α, ((xs.filter p).map f).sum = (xs.map fun x => if p x = true then f x else 0).sum
  | [] => rfl
  | x :: xs => by
    rw [List.filter_cons]
    by_cases h : p x = true
    · rw [if_pos h, List.map_cons, List.sum_cons, List.map_cons, List.sum_cons, if_pos h, sum_filter p f xs]
    · rw [if_neg h, List.map_cons, List.sum_cons, if_neg h, sum_filter p f xs]; omega
theorem sum_sub {α : Type} (f g : α → Int) : ∀ xs : List α, (xs.map fun x => f x - g x).sum = (xs.map f).sum - (xs.map g).sum
  | [] => rfl
  | x :: xs => by
    rw [List.map_cons, List.sum_cons, List.map_cons, List.sum_cons, List.map_cons, List.sum_cons, sum_sub f g xs]; omega
theorem eq_s {x y : Str} {S : Sto} {Q : Bool → Prop} (hx : (PyData.str x).canLay0 = true) (hy : (PyData.str y).canLay0 = true) (q : Q (decide (x = y))) : cmpW .Eq (.str x) (.str y) S Q :=
  eq_p (.str 0 x hx) (.str 0 y hy) fun b hb => by
    have : b = decide (x = y) := by
      rw [Bool.eq_iff_iff, hb, decide_eq_true_iff]
      exact ⟨fun h => by injection h, fun h => by rw [h]⟩
    rw [this]; exact q
end ST

set_option Elab.async false
set_option linter.all false
set_option maxRecDepth 100000
set_option maxHeartbeats 4000000
/-! LK: numbers, names, towns and days of the laws with a seed for each cell. -/
namespace LK
open PySem PySem.Spec PyProof.Rows L2 MP NM DK LF LG LH ST
local macro_rules
  | `(tactic| contradiction) => `(tactic| first | with_reducible refine d_in ?_ | with_reducible refine s_nil ?_ | with_reducible refine s_seq ?_ | with_reducible refine s_asg ?_ | with_reducible refine s_par ?_ | with_reducible refine s_expr ?_ | with_reducible refine s_ret ?_ | with_reducible refine s_retN ?_ | with_reducible refine s_iff ?_ | with_reducible refine s_fr ?_ | with_reducible refine s_cont ?_ | with_reducible refine s_brk ?_ | with_reducible refine s_pass ?_ | with_reducible refine s_augS ?_ | with_reducible refine e_int ?_ | with_reducible refine e_str ?_ | with_reducible refine e_bool ?_ | with_reducible refine e_none ?_ | with_reducible refine e_bin ?_ | with_reducible refine e_neg ?_ | with_reducible refine e_nt ?_ | with_reducible refine e_cmp ?_ | with_reducible refine e_chain ?_ | with_reducible refine e_an ?_ | with_reducible refine e_or ?_ | with_reducible refine an_1 ?_ | with_reducible refine an_2 ?_ | with_reducible refine or_1 ?_ | with_reducible refine or_2 ?_ | with_reducible refine e_ife ?_ | with_reducible refine e_call ?_ | with_reducible refine e_blt ?_ | with_reducible refine e_mth ?_ | with_reducible refine e_idx ?_ | with_reducible refine e_slc ?_ | with_reducible refine e_rev ?_ | with_reducible refine e_tup ?_ | with_reducible refine e_lst ?_ | with_reducible refine e_dnew ?_ | with_reducible refine e_dct ?_ | with_reducible refine e_isi ?_ | with_reducible refine e_lrg ?_ | with_reducible refine e_lzip ?_ | with_reducible refine e_stp ?_ | with_reducible refine e_sset ?_ | with_reducible refine es_n ?_ | with_reducible refine es_c ?_ | with_reducible refine o_nil ?_ | with_reducible refine o_var ?_ | with_reducible refine o_cst ?_ | with_reducible refine o_bin ?_ | with_reducible refine o_neg ?_ | with_reducible refine o_blt ?_ | with_reducible refine o_call ?_ | with_reducible refine ik ?_ | with_reducible refine ng ?_ | with_reducible refine tq_bl ?_ | with_reducible refine tq_int ?_ | with_reducible refine tq_non ?_ | with_reducible refine tq_lst ?_ | with_reducible refine tq_tup ?_ | with_reducible refine t_var ?_ | with_reducible refine t_call ?_ | with_reducible refine t_blt ?_ | with_reducible refine t_mth ?_ | with_reducible refine t_idx ?_ | with_reducible refine t_isi ?_ | with_reducible refine t_cst ?_ | with_reducible refine t_nt ?_ | with_reducible refine t_cmp ?_ | with_reducible refine t_chain ?_ | with_reducible refine t_an ?_ | with_reducible refine t_or ?_ | with_reducible refine ant_1 ?_ | with_reducible refine ant_2 ?_ | with_reducible refine ort_1 ?_ | with_reducible refine ort_2 ?_ | with_reducible refine tr_bl ?_ | with_reducible refine tr_int ?_ | with_reducible refine tr_lst ?_ | with_reducible refine tr_non ?_ | with_reducible refine c_nil ?_ | with_reducible refine c_one ?_ | with_reducible refine g_sub ?_ | with_reducible refine gs_n ?_ | with_reducible refine gs_c ?_ | with_reducible refine i_seq ?_ | with_reducible refine i_rng1 ?_ | with_reducible refine i_rng2 ?_ | with_reducible refine i_rng3 ?_ | with_reducible refine i_zip ?_ | with_reducible refine i_enm ?_ | with_reducible refine b_add ?_ | with_reducible refine b_sub ?_ | with_reducible refine c_lt ?_ | with_reducible refine c_le ?_ | with_reducible refine c_gt ?_ | with_reducible refine c_ge ?_ | with_reducible refine mk_f ?_ | with_reducible refine ref_and ?_ | with_reducible refine u_set ?_ | with_reducible refine eq_i ?_ | with_reducible refine ne_i ?_ | with_reducible refine eq_b ?_ | with_reducible refine ne_b ?_ | with_reducible refine is_b ?_ | with_reducible refine isn_b ?_ | with_reducible refine is_n ?_ | with_reducible refine isn_n ?_ | with_reducible refine e_v0 ?_ | with_reducible refine g_v0 ?_ | with_reducible refine s_u0 ?_ | with_reducible refine e_v1 ?_ | with_reducible refine g_v1 ?_ | with_reducible refine s_u1 ?_ | with_reducible refine e_v2 ?_ | with_reducible refine g_v2 ?_ | with_reducible refine s_u2 ?_ | with_reducible refine e_v3 ?_ | with_reducible refine g_v3 ?_ | with_reducible refine s_u3 ?_ | with_reducible refine e_v4 ?_ | with_reducible refine g_v4 ?_ | with_reducible refine s_u4 ?_ | with_reducible refine e_v5 ?_ | with_reducible refine g_v5 ?_ | with_reducible refine s_u5 ?_ | with_reducible refine e_v6 ?_ | with_reducible refine g_v6 ?_ | with_reducible refine s_u6 ?_ | with_reducible refine e_v7 ?_ | with_reducible refine g_v7 ?_ | with_reducible refine s_u7 ?_ | with_reducible refine e_v8 ?_ | with_reducible refine g_v8 ?_ | with_reducible refine s_u8 ?_ | with_reducible refine e_v9 ?_ | with_reducible refine g_v9 ?_ | with_reducible refine s_u9 ?_ | with_reducible refine e_v10 ?_ | with_reducible refine g_v10 ?_ | with_reducible refine s_u10 ?_ | with_reducible refine e_v11 ?_ | with_reducible refine g_v11 ?_ | with_reducible refine s_u11 ?_ | with_reducible refine e_v12 ?_ | with_reducible refine g_v12 ?_ | with_reducible refine s_u12 ?_ | with_reducible refine e_v13 ?_ | with_reducible refine g_v13 ?_ | with_reducible refine s_u13 ?_ | with_reducible refine e_v14 ?_ | with_reducible refine g_v14 ?_ | with_reducible refine s_u14 ?_ | with_reducible refine e_v15 ?_ | with_reducible refine g_v15 ?_ | with_reducible refine s_u15 ?_ | with_reducible refine e_v16 ?_ | with_reducible refine g_v16 ?_ | with_reducible refine s_u16 ?_ | with_reducible refine e_v17 ?_ | with_reducible refine g_v17 ?_ | with_reducible refine s_u17 ?_ | with_reducible refine e_v18 ?_ | with_reducible refine g_v18 ?_ | with_reducible refine s_u18 ?_ | with_reducible refine e_v19 ?_ | with_reducible refine g_v19 ?_ | with_reducible refine s_u19 ?_ | ((with_reducible refine e_lc' (ρ' := ?rr) ?hw ?_); (case hw => (dsimp only [wipeW, List.map, List.set]; exact rfl))) | ((with_reducible refine g_tup ?hl ?_); (case hl => exact rfl)) | with_reducible refine b_mod (by first | decide | omega) ?_ | ((with_reducible refine b_pow (pow_ok (by decide) (by decide) (by decide)) ?_); simp only [Int.reduceToNat, Int.reducePow]) | with_reducible refine le_and (by simp only [List.length_cons, List.length_nil]; decide) ?_ | with_reducible refine l_intB ?_ | with_reducible refine l_intI ?_ | with_reducible refine sl_f ?_ | (refine l_len (by exact rfl) (q := ?_); skip) | (refine l_list (by exact rfl) ?_; skip) | (refine ix_t (by exact rfl) ?_; skip))

/-! _law_mixed -/
def N_mixed : List Str := ["_law_script", "_law_k", "_law_cell"]
def P_mixed : List Str := ["_law_script", "_law_k"]
def c_mixed : CS :=
  (.seq (.asg (.tnm 2) (.bin false .mod (.idx (.bin false .add (.var 0) (.lst false (.cons (.cst (.int 0)) .nil))) (.bin false .mod (.var 1) (.blt .max2 false (.cons (.cst (.int 1)) (.cons (.blt .len false (.cons (.var 0) .nil)) .nil))))) (.bin false .pow (.cst (.int 10)) (.cst (.int 60))))) (.seq (.ret (.bin false .mod (.bin false .mul (.bin false .add (.bin false .add (.var 2) (.cst (.int 1))) (.bin false .mul (.bin false .mul (.cst (.int 1009)) (.var 1)) (.var 1))) (.bin false .add (.cst (.int 48271)) (.bin false .mul (.cst (.int 2)) (.var 1)))) (.cst (.int 2147483647)))) .nil))
/-! _law_turned -/
def N_turned : List Str := ["_law_number", "_law_k"]
def P_turned : List Str := ["_law_number", "_law_k"]
def c_turned : CS :=
  (.seq (.ret (.bin false .mod (.bin false .mul (.bin false .add (.bin false .add (.var 0) (.cst (.int 1))) (.bin false .mul (.bin false .mul (.cst (.int 5081)) (.var 1)) (.var 1))) (.idx (.lst false (.cons (.cst (.int 48271)) (.cons (.cst (.int 16807)) (.cons (.cst (.int 69621)) (.cons (.cst (.int 39373)) .nil))))) (.bin false .mod (.var 1) (.cst (.int 4))))) (.cst (.int 2147483647)))) .nil)
/-! _law_name -/
def N_name : List Str := ["_law_seed", "_law_k", "_law_size_here", "_law_tail", "_law_at", "_law_j"]
def P_name : List Str := ["_law_seed", "_law_k"]
def c_name (i_turned : Nat) : CS :=
  (.seq (.asg (.tnm 2) (.bin false .mod (.var 0) (.cst (.int 7)))) (.seq (.asg (.tnm 3) (.mth .join (.cst (.str "")) (.cons (.lc false [("_law_j", 5)] (.tnm 5) (.irng1 (.var 2)) .nil (.idx (.cst (.str "abcdefghijklm")) (.bin false .mod (.call i_turned (.cons (.var 0) (.cons (.var 5) .nil))) (.cst (.int 13))))) .nil))) (.seq (.asg (.tnm 4) (.bin false .mod (.bin false .fdiv (.var 0) (.cst (.int 7))) (.bin false .add (.var 2) (.cst (.int 1))))) (.seq (.ret (.bin false .add (.bin false .add (.slc false (.var 3) .nil (.var 4)) (.idx (.cst (.str "nopqrstuvwxyz")) (.var 1))) (.slc false (.var 3) (.var 4) .nil))) .nil))))
/-! _law_size -/
def N_size : List Str := ["_law_number", "_law_some"]
def P_size : List Str := ["_law_number"]
def c_size : CS :=
  (.seq (.asg (.tnm 1) (.lst false (.cons (.cst (.int 0)) (.cons (.cst (.int 1)) (.cons (.neg (.cst (.int 1))) (.cons (.cst (.int 2)) (.cons (.neg (.cst (.int 3))) (.cons (.cst (.int 5)) (.cons (.neg (.cst (.int 8))) (.cons (.bin false .pow (.cst (.int 10)) (.cst (.int 30))) (.cons (.neg (.bin false .pow (.cst (.int 10)) (.cst (.int 30)))) (.cons (.bin false .sub (.bin false .mod (.bin false .fdiv (.var 0) (.cst (.int 12))) (.cst (.int 41))) (.cst (.int 20))) (.cons (.bin false .fdiv (.var 0) (.cst (.int 12))) (.cons (.bin false .sub (.cst (.int 0)) (.bin false .fdiv (.var 0) (.cst (.int 12)))) .nil)))))))))))))) (.seq (.ret (.idx (.var 1) (.bin false .mod (.var 0) (.cst (.int 12))))) .nil))
/-! _law_town -/
def N_town : List Str := ["_law_seed", "_law_many", "_law_found", "_law_k", "_law_low", "_law_purse", "_law_high", "_law_j"]
def P_town : List Str := ["_law_seed", "_law_many"]
def c_town (i_size i_name i_turned : Nat) : CS :=
  (.seq (.asg (.tnm 2) (.lst true .nil)) (.seq (.fr (.tnm 3) (.irng1 (.var 1)) (.seq (.asg (.ttup (.cons (.tnm 4) (.cons (.tnm 5) (.cons (.tnm 6) .nil)))) (.blt .sortD false (.cons (.lc false [("_law_j", 7)] (.tnm 7) (.irng1 (.cst (.int 3))) .nil (.call i_size (.cons (.call i_turned (.cons (.var 0) (.cons (.bin false .add (.bin false .mul (.cst (.int 3)) (.var 3)) (.var 7)) .nil))) .nil))) .nil))) (.seq (.expr (.mth .append (.var 2) (.cons (.tup (.cons (.call i_name (.cons (.bin false .fdiv (.var 0) (.cst (.int 5))) (.cons (.var 3) .nil))) (.cons (.var 5) (.cons (.var 4) (.cons (.var 6) .nil))))) .nil))) .nil))) (.seq (.gfrz 2) (.seq (.ret (.var 2)) .nil))))
/-! _law_day -/
def N_day : List Str := ["_law_town_here", "_law_seed", "_law_many", "_law_found", "_law_pairs", "_law_k", "_law_number", "_law_pair", "_law_hours"]
def P_day : List Str := ["_law_town_here", "_law_seed", "_law_many"]
def c_day (i_turned i_name : Nat) : CS :=
  (.seq (.asg (.tnm 3) (.tup (.cons (.lst true .nil) (.cons (.lst true .nil) .nil)))) (.seq (.asg (.tnm 4) (.lst true .nil)) (.seq (.fr (.tnm 5) (.irng1 (.bin false .mul (.var 2) (.blt .int false (.cons (.cmp .NotEq (.var 0) (.lst false .nil)) .nil)))) (.seq (.asg (.tnm 6) (.call i_turned (.cons (.var 1) (.cons (.bin false .add (.cst (.int 40)) (.var 5)) .nil)))) (.seq (.asg (.tnm 7) (.tup (.cons (.idx (.idx (.var 0) (.bin false .mod (.var 6) (.blt .len false (.cons (.var 0) .nil)))) (.cst (.int 0))) (.cons (.call i_name (.cons (.bin false .fdiv (.var 1) (.cst (.int 3))) (.cons (.bin false .mod (.bin false .fdiv (.var 6) (.cst (.int 13))) (.cst (.int 4))) .nil))) .nil)))) (.seq (.iff (.cmp .NotIn (.var 7) (.var 4)) (.seq (.expr (.mth .append (.var 4) (.cons (.var 7) .nil))) (.seq (.asg (.tnm 8) (.idx (.lst false (.cons (.cst (.int 1)) (.cons (.cst (.int 2)) (.cons (.cst (.int 3)) (.cons (.bin false .pow (.cst (.int 10)) (.cst (.int 30))) (.cons (.bin false .add (.cst (.int 1)) (.bin false .mod (.bin false .fdiv (.var 6) (.cst (.int 312))) (.cst (.int 30)))) (.cons (.bin false .add (.cst (.int 1)) (.bin false .fdiv (.var 6) (.cst (.int 312)))) .nil))))))) (.bin false .mod (.bin false .fdiv (.var 6) (.cst (.int 52))) (.cst (.int 6))))) (.seq (.expr (.mth .append (.idx (.var 3) (.bin false .mod (.bin false .fdiv (.var 6) (.cst (.int 7))) (.cst (.int 2)))) (.cons (.bin false .add (.var 7) (.tup (.cons (.var 8) .nil))) .nil))) .nil))) .nil) .nil)))) (.seq (.gfr2 3) (.seq (.ret (.var 3)) .nil)))))

theorem b_tups {xs ys : List W} {live : Bool} {S : Sto} {Q : WK} (h0 : xs ≠ []) (hl : xs.length + ys.length ≤ sizeLine) (q : Q (.tup (xs ++ ys)) S) : bopW live .add (.tup xs) (.tup ys) S Q := ⟨hl, q⟩
def tc (k : Int) : Int := if k % 4 = 0 then 48271 else if k % 4 = 1 then 16807 else if k % 4 = 2 then 69621 else 39373
def turnF (n k : Int) : Int := (n + 1 + 5081 * k * k) * tc k % 2147483647
theorem turn_bd (n k : Int) : 0 ≤ turnF n k ∧ turnF n k < 2147483647 := ⟨Int.emod_nonneg _ (by decide), Int.emod_lt_of_pos _ (by decide)⟩
theorem tc_bd (k : Int) : 0 ≤ tc k ∧ tc k < 100000 := by unfold tc; split <;> (try split) <;> (try split) <;> decide
def spMixed : MP.Spec := fun ws S Q _ => ∃ (ns : List Int) (k : Int), ws = [iL ns, .int k] ∧ ns.length ≤ 63 ∧ 0 ≤ k ∧ k ≤ 63 ∧ ∀ v, 0 ≤ v → v < 2147483647 → Q (.int v) S
theorem ok_mixed {Φ : Nat → MP.Spec} {ws : List W} {S : Sto} {Q : WK} {X X0 : XC} (h : spMixed ws S Q X) : wps Φ (c_mixed) (startW N_mixed ws) S (dEnds Q X0) := by
  obtain ⟨ns, k, rfl, hn, k0, k1, q⟩ := h
  unfold c_mixed
  show wps Φ _ [some (iL ns), some (.int k), none] S (dEnds Q X0)
  repeat' contradiction
  refine b_cat rfl rfl (le_line (by rw [List.length_map]; simp; omega)) ?_
  repeat' contradiction
  rw [List.length_map]
  refine l_max2 fun m hm => ?_
  refine b_mod (by omega) ?_
  have h1 := Int.emod_nonneg k (show m ≠ 0 by omega)
  have h2 := Int.emod_lt_of_pos k (show 0 < m by omega)
  have hz : ∃ z, atI (ns.map W.int ++ [W.int 0]) (k % m) = some (.int z) := by
    have e : ns.map W.int ++ [W.int 0] = (ns ++ [0]).map W.int := by rw [List.map_append]; rfl
    have hl : (k % m).toNat < (ns ++ [0]).length := by rw [List.length_append]; simp; omega
    rw [e]
    exact ⟨(ns ++ [0])[(k % m).toNat]'hl, atI_int h1 (by rw [List.getElem?_map, List.getElem?_eq_getElem hl]; rfl)⟩
  obtain ⟨z, hz⟩ := hz
  refine ix_l hz ?_
  repeat' contradiction
  have z1 := Int.emod_nonneg z (show (10 ^ 60 : Int) ≠ 0 by decide)
  have z2 := Int.emod_lt_of_pos z (show (0 : Int) < 10 ^ 60 by decide)
  generalize z % _ = u at z1 z2 ⊢
  refine b_mul (mul_ok (by omega) (by omega)) ?_
  repeat' contradiction
  have a1 : 0 ≤ 1009 * k * k := Int.mul_nonneg (by omega) k0
  have a2 : 1009 * k * k ≤ (1009 * 63) * 63 := Int.mul_le_mul (by omega) k1 k0 (by decide)
  refine b_mul (mul_ok (by omega) (by omega)) ?_
  repeat' contradiction
  refine b_mul (mul_ok (by omega) (by omega)) ?_
  repeat' contradiction
  refine b_mul (mul_ok (by omega) (by omega)) ?_
  repeat' contradiction
  exact d_same (q _ (Int.emod_nonneg _ (by decide)) (Int.emod_lt_of_pos _ (by decide)))
def spTurned : MP.Spec := fun ws S Q _ => ∃ n k : Int, ws = [.int n, .int k] ∧ 0 ≤ n ∧ n < 2147483648 ∧ 0 ≤ k ∧ k ≤ 200 ∧ Q (.int (turnF n k)) S
theorem u_turned {n k : Int} {S : Sto} {Q : WK} {X : XC} (n0 : 0 ≤ n) (n1 : n < 2147483648) (k0 : 0 ≤ k) (k1 : k ≤ 200) (q : Q (.int (turnF n k)) S) : spTurned [.int n, .int k] S Q X := ⟨n, k, rfl, n0, n1, k0, k1, q⟩
theorem ix_tc {k : Int} {S : Sto} {Q : WK} (q : Q (.int (tc k)) S) : idxW (.lst [.int 48271, .int 16807, .int 69621, .int 39373]) (.int (k % 4)) S Q := by
  have h1 := Int.emod_nonneg k (show (4 : Int) ≠ 0 by decide)
  have h2 := Int.emod_lt_of_pos k (show (0 : Int) < 4 by decide)
  unfold tc at q
  have hc : k % 4 = 0 ∨ k % 4 = 1 ∨ k % 4 = 2 ∨ k % 4 = 3 := by omega
  rcases hc with e | e | e | e <;> rw [e] at q ⊢ <;> exact ix_l rfl q
theorem ok_turned {Φ : Nat → MP.Spec} {ws : List W} {S : Sto} {Q : WK} {X X0 : XC} (h : spTurned ws S Q X) : wps Φ (c_turned) (startW N_turned ws) S (dEnds Q X0) := by
  obtain ⟨n, k, rfl, n0, n1, k0, k1, q⟩ := h
  unfold c_turned
  show wps Φ _ [some (.int n), some (.int k)] S (dEnds Q X0)
  repeat' contradiction
  refine b_mul (mul_ok (by omega) (by omega)) ?_
  repeat' contradiction
  have a1 : 0 ≤ 5081 * k * k := Int.mul_nonneg (by omega) k0
  have a2 : 5081 * k * k ≤ (5081 * 200) * 200 := Int.mul_le_mul (by omega) k1 k0 (by decide)
  refine b_mul (mul_ok (by omega) (by omega)) ?_
  repeat' contradiction
  refine ix_tc ?_
  have t := tc_bd k
  refine b_mul (mul_ok (by omega) (by omega)) ?_
  repeat' contradiction
  exact d_same q
/-! ### names -/
def tailK (seed : Int) : Str := Txt.join ("" : Str) ((List.range (seed % 7).toNat).map fun (i : Nat) => lt (turnF seed (0 + (i : Int)) % 13).toNat)
def atK (seed : Int) : Int := seed / 7 % (seed % 7 + 1)
def nmK (seed : Int) (k : Nat) : Str := cutS (tailK seed) none (some (atK seed)) ++ lt (13 + k) ++ cutS (tailK seed) (some (atK seed)) none
theorem seven {n : Int} : 0 ≤ n % 7 ∧ n % 7 < 7 := ⟨Int.emod_nonneg _ (by decide), Int.emod_lt_of_pos _ (by decide)⟩
theorem tail_nm (seed : Int) : Nm 6 (tailK seed) := by
  unfold tailK
  rw [LD.emp]
  refine join_nil (fun x hx => ?_) ?_
  · obtain ⟨i, _, rfl⟩ := List.mem_map.mp hx
    have h2 := Int.emod_lt_of_pos (turnF seed (0 + (i : Int))) (show (0 : Int) < 13 by decide)
    exact lt_nm (by omega)
  · rw [List.length_map, List.length_range]
    have := seven (n := seed)
    omega
theorem at_nn (seed : Int) : 0 ≤ atK seed := by
  have := seven (n := seed)
  exact Int.emod_nonneg _ (by omega)
theorem nmK_nme {seed : Int} {k : Nat} (hk : k < 13) : Nme (nmK seed k) := by
  have h := tail_nm seed
  have h1 := (((h.cut none (some (atK seed))).app (lt_nm (k := 13 + k) (by omega))).app (h.cut (some (atK seed)) none)).low
  have hl : (nmK seed k).length = (tailK seed).length + 1 := by
    unfold nmK
    rw [app_len, app_len, cut_lo (at_nn seed), cut_hi (at_nn seed)]
    have : (lt (13 + k)).length = 1 := rfl
    omega
  have := h.len
  exact ⟨⟨by omega, h1⟩, by omega⟩
theorem nmK_inj {seed : Int} {i j : Nat} (h : nmK seed i = nmK seed j) : i = j := by
  have := lt_inj (put_inj h)
  omega
theorem am : ("abcdefghijklm" : Str).cps.toList = (List.range 13).map (97 + ·) := by decide +kernel
theorem nz : ("nopqrstuvwxyz" : Str).cps.toList = (List.range 13).map (110 + ·) := by decide +kernel
theorem ix_am {i : Int} {S : Sto} {Q : WK} (h0 : 0 ≤ i) (h1 : i < 13) (q : Q (.str (lt i.toNat)) S) : idxW (.str "abcdefghijklm") (.int i) S Q := by
  refine ⟨by decide +kernel, 97 + i.toNat, atI_int h0 ?_, q⟩
  rw [am, List.getElem?_map, List.getElem?_range (by omega)]
  rfl
theorem ix_nz {i : Int} {S : Sto} {Q : WK} (h0 : 0 ≤ i) (h1 : i < 13) (q : Q (.str (lt (13 + i.toNat))) S) : idxW (.str "nopqrstuvwxyz") (.int i) S Q := by
  refine ⟨by decide +kernel, 110 + i.toNat, atI_int h0 ?_, by
    have e : (lt (13 + i.toNat)) = ⟨#[110 + i.toNat]⟩ := by unfold lt; rw [show 97 + (13 + i.toNat) = 110 + i.toNat by omega]
    rw [← e]; exact q⟩
  rw [nz, List.getElem?_map, List.getElem?_range (by omega)]
  rfl
def spName : MP.Spec := fun ws S Q _ => ∃ seed k : Int, ws = [.int seed, .int k] ∧ 0 ≤ seed ∧ seed < 2147483648 ∧ 0 ≤ k ∧ k < 13 ∧ Q (.str (nmK seed k.toNat)) S
theorem u_name {n k : Int} {S : Sto} {Q : WK} {X : XC} (n0 : 0 ≤ n) (n1 : n < 2147483648) (k0 : 0 ≤ k) (k1 : k < 13) (q : Q (.str (nmK n k.toNat)) S) : spName [.int n, .int k] S Q X := ⟨n, k, rfl, n0, n1, k0, k1, q⟩
theorem ok_name {Φ : Nat → MP.Spec} {i_turned : Nat} (ht : Φ i_turned = spTurned) {ws : List W} {S : Sto} {Q : WK} {X X0 : XC} (h : spName ws S Q X) : wps Φ (c_name i_turned) (startW N_name ws) S (dEnds Q X0) := by
  obtain ⟨seed, k, rfl, n0, n1, k0, k1, q⟩ := h
  unfold c_name
  show wps Φ _ [some (.int seed), some (.int k), none, none, none, none] S (dEnds Q X0)
  have s7 := seven (n := seed)
  repeat' contradiction
  refine ⟨trivial, ?_⟩
  repeat' contradiction
  refine rg1 (by omega) ?_
  rw [rng_map]
  refine lc_mp (fun (i : Nat) => W.str (lt (turnF seed (0 + (i : Int)) % 13).toNat)) trivial (le_line (by rw [List.length_range]; omega)) (fun i hi K hK => ?_) ?_
  · have hi' := List.mem_range.mp hi
    repeat' contradiction
    rw [ht]
    refine u_turned n0 n1 (by omega) (by omega) ?_
    repeat' contradiction
    refine ix_am (Int.emod_nonneg _ (by decide)) (Int.emod_lt_of_pos _ (by decide)) ?_
    exact hK
  repeat' contradiction
  have hs : ∀ x ∈ (List.range (seed % 7).toNat).map (fun (i : Nat) => lt (turnF seed (0 + (i : Int)) % 13).toNat), Nm 1 x := fun x hx => by
    obtain ⟨i, _, rfl⟩ := List.mem_map.mp hx
    have h2 := Int.emod_lt_of_pos (turnF seed (0 + (i : Int))) (show (0 : Int) < 13 by decide)
    exact lt_nm (by omega)
  refine LD.m_join0 rfl (LD.strs_map _ _) hs (by rw [List.length_map, List.length_range]; omega) ?_
  show (wp Φ _).g (.str (tailK seed)) _ _ _
  have hF := tail_nm seed
  have ha := at_nn seed
  repeat' contradiction
  refine b_div (div_ok (by decide) (by decide)) ?_
  repeat' contradiction
  refine ⟨hF.line (by decide), ?_⟩
  repeat' contradiction
  refine ix_nz k0 k1 ?_
  refine b_strs (hF.cut _ _) (lt_nm (by omega)) (by decide) ?_
  repeat' contradiction
  refine ⟨hF.line (by decide), ?_⟩
  refine b_strs ((hF.cut _ _).app (lt_nm (by omega))) (hF.cut _ _) (by decide) ?_
  exact d_same q
/-! ### hours -/
def spSize : MP.Spec := fun ws S Q _ => ∃ n : Int, ws = [.int n] ∧ 0 ≤ n ∧ n < 2147483648 ∧ ∀ v, -(10 ^ 30) ≤ v → v ≤ 10 ^ 30 → Q (.int v) S
theorem ok_size {Φ : Nat → MP.Spec} {ws : List W} {S : Sto} {Q : WK} {X X0 : XC} (h : spSize ws S Q X) : wps Φ (c_size) (startW N_size ws) S (dEnds Q X0) := by
  obtain ⟨n, rfl, n0, n1, q⟩ := h
  unfold c_size
  show wps Φ _ [some (.int n), none] S (dEnds Q X0)
  repeat' contradiction
  refine b_div (div_ok (by decide) (by decide)) ?_
  repeat' contradiction
  refine b_div (div_ok (by decide) (by decide)) ?_
  repeat' contradiction
  refine b_div (div_ok (by decide) (by decide)) ?_
  repeat' contradiction
  have h1 := Int.emod_nonneg n (show (12 : Int) ≠ 0 by decide)
  have h2 := Int.emod_lt_of_pos n (show (0 : Int) < 12 by decide)
  have d1 : 0 ≤ n / 12 := Int.ediv_nonneg n0 (by decide)
  have d2 : n / 12 < 2147483648 := Int.lt_of_le_of_lt (Int.ediv_le_self _ n0) n1
  have d3 := Int.emod_nonneg (n / 12) (show (41 : Int) ≠ 0 by decide)
  have d4 := Int.emod_lt_of_pos (n / 12) (show (0 : Int) < 41 by decide)
  refine ix_pick (P := fun w => ∃ z : Int, w = .int z ∧ -(10 ^ 30) ≤ z ∧ z ≤ 10 ^ 30) h1 (by simp only [List.length_cons, List.length_nil]; omega) ?_ ?_
  · simp only [List.forall_mem_cons]
    refine ⟨?_, ?_, ?_, ?_, ?_, ?_, ?_, ?_, ?_, ?_, ?_, ?_, fun _ h => nomatch h⟩ <;> exact ⟨_, rfl, by omega, by omega⟩
  · rintro _ ⟨z, rfl, z1, z2⟩
    exact d_same (q z z1 z2)
end LK

set_option Elab.async false
set_option linter.all false
set_option maxRecDepth 100000
set_option maxHeartbeats 4000000
/-! LL: towns and days of the seed family. -/
namespace LL
open PySem PySem.Spec PyProof.Rows L2 MP NM DK LF LG LH ST LK
local macro_rules
  | `(tactic| contradiction) => `(tactic| first | with_reducible refine d_in ?_ | with_reducible refine s_nil ?_ | with_reducible refine s_seq ?_ | with_reducible refine s_asg ?_ | with_reducible refine s_par ?_ | with_reducible refine s_expr ?_ | with_reducible refine s_ret ?_ | with_reducible refine s_retN ?_ | with_reducible refine s_iff ?_ | with_reducible refine s_fr ?_ | with_reducible refine s_cont ?_ | with_reducible refine s_brk ?_ | with_reducible refine s_pass ?_ | with_reducible refine s_augS ?_ | with_reducible refine e_int ?_ | with_reducible refine e_str ?_ | with_reducible refine e_bool ?_ | with_reducible refine e_none ?_ | with_reducible refine e_bin ?_ | with_reducible refine e_neg ?_ | with_reducible refine e_nt ?_ | with_reducible refine e_cmp ?_ | with_reducible refine e_chain ?_ | with_reducible refine e_an ?_ | with_reducible refine e_or ?_ | with_reducible refine an_1 ?_ | with_reducible refine an_2 ?_ | with_reducible refine or_1 ?_ | with_reducible refine or_2 ?_ | with_reducible refine e_ife ?_ | with_reducible refine e_call ?_ | with_reducible refine e_blt ?_ | with_reducible refine e_mth ?_ | with_reducible refine e_idx ?_ | with_reducible refine e_slc ?_ | with_reducible refine e_rev ?_ | with_reducible refine e_tup ?_ | with_reducible refine e_lst ?_ | with_reducible refine e_dnew ?_ | with_reducible refine e_dct ?_ | with_reducible refine e_isi ?_ | with_reducible refine e_lrg ?_ | with_reducible refine e_lzip ?_ | with_reducible refine e_stp ?_ | with_reducible refine e_sset ?_ | with_reducible refine es_n ?_ | with_reducible refine es_c ?_ | with_reducible refine o_nil ?_ | with_reducible refine o_var ?_ | with_reducible refine o_cst ?_ | with_reducible refine o_bin ?_ | with_reducible refine o_neg ?_ | with_reducible refine o_blt ?_ | with_reducible refine o_call ?_ | with_reducible refine ik ?_ | with_reducible refine ng ?_ | with_reducible refine tq_bl ?_ | with_reducible refine tq_int ?_ | with_reducible refine tq_non ?_ | with_reducible refine tq_lst ?_ | with_reducible refine tq_tup ?_ | with_reducible refine t_var ?_ | with_reducible refine t_call ?_ | with_reducible refine t_blt ?_ | with_reducible refine t_mth ?_ | with_reducible refine t_idx ?_ | with_reducible refine t_isi ?_ | with_reducible refine t_cst ?_ | with_reducible refine t_nt ?_ | with_reducible refine t_cmp ?_ | with_reducible refine t_chain ?_ | with_reducible refine t_an ?_ | with_reducible refine t_or ?_ | with_reducible refine ant_1 ?_ | with_reducible refine ant_2 ?_ | with_reducible refine ort_1 ?_ | with_reducible refine ort_2 ?_ | with_reducible refine tr_bl ?_ | with_reducible refine tr_int ?_ | with_reducible refine tr_lst ?_ | with_reducible refine tr_non ?_ | with_reducible refine c_nil ?_ | with_reducible refine c_one ?_ | with_reducible refine g_sub ?_ | with_reducible refine gs_n ?_ | with_reducible refine gs_c ?_ | with_reducible refine i_seq ?_ | with_reducible refine i_rng1 ?_ | with_reducible refine i_rng2 ?_ | with_reducible refine i_rng3 ?_ | with_reducible refine i_zip ?_ | with_reducible refine i_enm ?_ | with_reducible refine b_add ?_ | with_reducible refine b_sub ?_ | with_reducible refine c_lt ?_ | with_reducible refine c_le ?_ | with_reducible refine c_gt ?_ | with_reducible refine c_ge ?_ | with_reducible refine mk_f ?_ | with_reducible refine ref_and ?_ | with_reducible refine u_set ?_ | with_reducible refine eq_i ?_ | with_reducible refine ne_i ?_ | with_reducible refine eq_b ?_ | with_reducible refine ne_b ?_ | with_reducible refine is_b ?_ | with_reducible refine isn_b ?_ | with_reducible refine is_n ?_ | with_reducible refine isn_n ?_ | with_reducible refine e_v0 ?_ | with_reducible refine g_v0 ?_ | with_reducible refine s_u0 ?_ | with_reducible refine e_v1 ?_ | with_reducible refine g_v1 ?_ | with_reducible refine s_u1 ?_ | with_reducible refine e_v2 ?_ | with_reducible refine g_v2 ?_ | with_reducible refine s_u2 ?_ | with_reducible refine e_v3 ?_ | with_reducible refine g_v3 ?_ | with_reducible refine s_u3 ?_ | with_reducible refine e_v4 ?_ | with_reducible refine g_v4 ?_ | with_reducible refine s_u4 ?_ | with_reducible refine e_v5 ?_ | with_reducible refine g_v5 ?_ | with_reducible refine s_u5 ?_ | with_reducible refine e_v6 ?_ | with_reducible refine g_v6 ?_ | with_reducible refine s_u6 ?_ | with_reducible refine e_v7 ?_ | with_reducible refine g_v7 ?_ | with_reducible refine s_u7 ?_ | with_reducible refine e_v8 ?_ | with_reducible refine g_v8 ?_ | with_reducible refine s_u8 ?_ | with_reducible refine e_v9 ?_ | with_reducible refine g_v9 ?_ | with_reducible refine s_u9 ?_ | with_reducible refine e_v10 ?_ | with_reducible refine g_v10 ?_ | with_reducible refine s_u10 ?_ | with_reducible refine e_v11 ?_ | with_reducible refine g_v11 ?_ | with_reducible refine s_u11 ?_ | with_reducible refine e_v12 ?_ | with_reducible refine g_v12 ?_ | with_reducible refine s_u12 ?_ | with_reducible refine e_v13 ?_ | with_reducible refine g_v13 ?_ | with_reducible refine s_u13 ?_ | with_reducible refine e_v14 ?_ | with_reducible refine g_v14 ?_ | with_reducible refine s_u14 ?_ | with_reducible refine e_v15 ?_ | with_reducible refine g_v15 ?_ | with_reducible refine s_u15 ?_ | with_reducible refine e_v16 ?_ | with_reducible refine g_v16 ?_ | with_reducible refine s_u16 ?_ | with_reducible refine e_v17 ?_ | with_reducible refine g_v17 ?_ | with_reducible refine s_u17 ?_ | with_reducible refine e_v18 ?_ | with_reducible refine g_v18 ?_ | with_reducible refine s_u18 ?_ | with_reducible refine e_v19 ?_ | with_reducible refine g_v19 ?_ | with_reducible refine s_u19 ?_ | ((with_reducible refine e_lc' (ρ' := ?rr) ?hw ?_); (case hw => (dsimp only [wipeW, List.map, List.set]; exact rfl))) | ((with_reducible refine g_tup ?hl ?_); (case hl => exact rfl)) | with_reducible refine b_mod (by first | decide | omega) ?_ | ((with_reducible refine b_pow (pow_ok (by decide) (by decide) (by decide)) ?_); simp only [Int.reduceToNat, Int.reducePow]) | with_reducible refine le_and (by simp only [List.length_cons, List.length_nil]; decide) ?_ | with_reducible refine l_intB ?_ | with_reducible refine l_intI ?_ | with_reducible refine sl_f ?_ | (refine l_len (by exact rfl) (q := ?_); skip) | (refine l_list (by exact rfl) ?_; skip) | (refine ix_t (by exact rfl) ?_; skip))

def spTown : MP.Spec := fun ws S Q _ => ∃ (seed : Int) (n : Nat), ws = [.int seed, .int (n : Nat)] ∧ 0 ≤ seed ∧ seed < 2147483648 ∧ n ≤ 12 ∧ ∀ town : List Nb, town.length = n → TownOk town → Q (.lst (town.map eN)) S
theorem three {ys : List Int} (h : ys.length = 3) : ∃ a b c, ys = [a, b, c] := by
  obtain _ | ⟨a, _ | ⟨b, _ | ⟨c, _ | ⟨d, r⟩⟩⟩⟩ := ys <;> simp at h
  exact ⟨a, b, c, rfl⟩
theorem ok_town {Φ : Nat → MP.Spec} {i_size i_name i_turned : Nat} (hz : Φ i_size = spSize) (hn : Φ i_name = spName) (ht : Φ i_turned = spTurned) {ws : List W} {S : Sto} {Q : WK} {X X0 : XC} (h : spTown ws S Q X) : wps Φ (LK.c_town i_size i_name i_turned) (startW LK.N_town ws) S (dEnds Q X0) := by
  obtain ⟨seed, n, rfl, s0, s1, hl, q⟩ := h
  unfold LK.c_town
  show wps Φ _ [some (.int seed), some (.int (n : Nat)), none, none, none, none, none, none] S (dEnds Q X0)
  repeat' contradiction
  refine mk_t fun p hp => ?_
  repeat' contradiction
  refine rg1 (by omega) ?_
  rw [Int.toNat_natCast]
  have d5 : 0 ≤ seed / 5 ∧ seed / 5 < 2147483648 := ⟨Int.ediv_nonneg s0 (by decide), Int.lt_of_le_of_lt (Int.ediv_le_self _ s0) s1⟩
  refine for_rng (fun i ρ S' => ∃ (town : List Nb) (r3 r4 r5 r6 r7 : Option W), ρ = [some (.int seed), some (.int (n : Nat)), some (.ref p), r3, r4, r5, r6, r7] ∧ S' = sup S p (.lst (town.map eN)) ∧
      town.map (·.1) = (List.range i).map (fun k => nmK (seed / 5) k) ∧ (∀ x ∈ town, -(10 ^ 30) ≤ x.2.2.1 ∧ x.2.2.1 ≤ x.2.1 ∧ x.2.1 ≤ x.2.2.2 ∧ x.2.2.2 ≤ 10 ^ 30))
    ⟨[], _, _, _, _, _, rfl, rfl, rfl, fun _ h => nomatch h⟩ (fun _ _ _ _ => trivial) (fun i ρ S' hi h K hK => ?_) (fun ρ S' h => ?_)
  · obtain ⟨town, r3, r4, r5, r6, r7, rfl, rfl, e1, e2⟩ := h
    have etl : town.length = i := by
      have := congrArg List.length e1
      rw [List.length_map, List.length_map, List.length_range] at this
      exact this
    repeat' contradiction
    refine rg1 (by decide) ?_
    show wpLc _ _ _ _ _ [W.int (0 + (0 : Nat)), W.int (0 + (1 : Nat)), W.int (0 + (2 : Nat))] [] _ _
    have go : ∀ (j : Nat) (K : WK), j ≤ 2 → (∀ v : Int, -(10 ^ 30) ≤ v → v ≤ 10 ^ 30 → K (.int v) (sup S p (.lst (town.map eN)))) →
        Φ i_turned [.int seed, .int (3 * (0 + (i : Int)) + (0 + (j : Int)))] (sup S p (.lst (town.map eN))) (fun w S1 => (wp Φ CE.nil).es [] S1 (fun ws S2 => Φ i_size (w :: ws) S2 K XN) XN) XN := fun j K hj hK => by
      rw [ht]
      refine u_turned s0 s1 (by omega) (by omega) ?_
      have b := turn_bd seed (3 * (0 + (i : Int)) + (0 + (j : Int)))
      refine es_n ?_
      rw [hz]
      exact ⟨_, rfl, b.1, by omega, hK⟩
    refine lc_c0 trivial ?_
    repeat' contradiction
    refine b_mul (mul_ok (by omega) (by omega)) ?_
    repeat' contradiction
    refine go 0 _ (by decide) fun v0 a0 b0 => ?_
    refine ⟨lt_line (by show (0 : Nat) ≤ 10000; decide), lc_c0 trivial ?_⟩
    repeat' contradiction
    refine b_mul (mul_ok (by omega) (by omega)) ?_
    repeat' contradiction
    refine go 1 _ (by decide) fun v1 a1 b1 => ?_
    refine ⟨lt_line (by show (1 : Nat) ≤ 10000; decide), lc_c0 trivial ?_⟩
    repeat' contradiction
    refine b_mul (mul_ok (by omega) (by omega)) ?_
    repeat' contradiction
    refine go 2 _ (by decide) fun v2 a2 b2 => ?_
    refine ⟨lt_line (by show (2 : Nat) ≤ 10000; decide), lc_n trivial ?_⟩
    repeat' contradiction
    refine l_sortI (is := [v0, v1, v2]) rfl fun ys pm pw => ?_
    obtain ⟨lo, pu, hi', rfl⟩ := three pm.length_eq
    have bd : ∀ y ∈ [lo, pu, hi'], -(10 ^ 30) ≤ y ∧ y ≤ 10 ^ 30 := fun y hy => by
      have := pm.mem_iff.mp hy
      simp only [List.mem_cons, List.not_mem_nil, or_false] at this
      rcases this with rfl | rfl | rfl <;> omega
    have bl := bd lo (by simp); have bp := bd pu (by simp); have bh := bd hi' (by simp)
    have p1 : lo ≤ pu := (List.pairwise_cons.mp pw).1 pu (by simp)
    have p2 : pu ≤ hi' := (List.pairwise_cons.mp (List.pairwise_cons.mp pw).2).1 hi' (by simp)
    refine g_lst rfl rfl ?_
    show (wp Φ _).gs [W.int lo, W.int pu, W.int hi'] _ _ _
    repeat' contradiction
    refine m_rcv rfl sup_same ?_
    repeat' contradiction
    refine b_div (div_ok (by decide) (by decide)) ?_
    repeat' contradiction
    rw [hn]
    refine u_name d5.1 d5.2 (by omega) (by omega) ?_
    repeat' contradiction
    refine m_app sup_same (lt_line (by rw [List.length_map]; omega)) ?_
    repeat' contradiction
    rw [sup_sup, show (0 + (i : Int)).toNat = i by omega]
    refine hK _ _ ⟨town ++ [(nmK (seed / 5) i, pu, lo, hi')], _, _, _, _, _, rfl, by rw [List.map_append]; rfl, by rw [List.map_append, e1, List.range_succ, List.map_append]; rfl, fun x hx => ?_⟩
    rcases List.mem_append.mp hx with hx | hx
    · exact e2 x hx
    · rw [List.mem_singleton.mp hx]
      exact ⟨bl.1, p1, p2, bh.2⟩
  · obtain ⟨town, r3, r4, r5, r6, r7, rfl, rfl, e1, e2⟩ := h
    repeat' contradiction
    refine s_gf2 sup_same ?_
    repeat' contradiction
    rw [sdel_sup hp]
    have etl : town.length = n := by
      have := congrArg List.length e1
      rw [List.length_map, List.length_map, List.length_range] at this
      exact this
    refine d_same (q town etl ⟨?_, fun x hx => ?_, e2⟩)
    · rw [e1]
      exact nodup_map List.nodup_range fun _ _ _ _ e => nmK_inj e
    · have : x.1 ∈ town.map (·.1) := List.mem_map.mpr ⟨x, hx, rfl⟩
      rw [e1] at this
      obtain ⟨k, hk, e⟩ := List.mem_map.mp this
      have := List.mem_range.mp hk
      rw [← e]
      exact nmK_nme (by omega)
/-! ### days -/
abbrev eK2 (k : Str × Str) : W := .tup [.str k.1, .str k.2]
theorem eK2_inj {x y : Str × Str} (h : eK2 x = eK2 y) : x = y := by
  injection h with h
  injection h with h1 h
  injection h with h2 _
  injection h1 with h1; injection h2 with h2
  exact Prod.ext h1 h2
theorem mem_eK2 {x : Str × Str} {xs : List (Str × Str)} : eK2 x ∈ xs.map eK2 ↔ x ∈ xs := by
  rw [List.mem_map]
  exact ⟨fun ⟨y, hy, e⟩ => eK2_inj e ▸ hy, fun h => ⟨x, h, rfl⟩⟩
theorem pln_k2 {x : Str × Str} (h1 : Nme x.1) (h2 : Nme x.2) : Pln 1 (eK2 x) := .tup 0 _ fun w hw => by
  simp only [List.mem_cons, List.not_mem_nil, or_false] at hw
  rcases hw with rfl | rfl
  · exact .str 0 _ h1.can
  · exact .str 0 _ h2.can
def spDay : MP.Spec := fun ws S Q _ => ∃ (town : List Nb) (seed : Int) (m : Nat), ws = [.lst (town.map eN), .int seed, .int (m : Nat)] ∧ 0 ≤ seed ∧ seed < 2147483648 ∧ m ≤ 20 ∧ TownOk town ∧ town.length ≤ 12 ∧
  ∀ os us : List En, DayOk town (os ++ us) → os.length + us.length ≤ m → (∀ x ∈ os ++ us, ∃ j : Nat, j < 4 ∧ x.2.1 = nmK (seed / 3) j) → Q (.tup [.lst (os.map eO), .lst (us.map eO)]) S
theorem ok_day {Φ : Nat → MP.Spec} {i_turned i_name : Nat} (ht : Φ i_turned = spTurned) (hn : Φ i_name = spName) {ws : List W} {S : Sto} {Q : WK} {X X0 : XC} (h : spDay ws S Q X) : wps Φ (LK.c_day i_turned i_name) (startW LK.N_day ws) S (dEnds Q X0) := by
  obtain ⟨town, seed, m, rfl, s0, s1, hm, hT, hl, q⟩ := h
  unfold LK.c_day
  show wps Φ _ [some (.lst (town.map eN)), some (.int seed), some (.int (m : Nat)), none, none, none, none, none, none] S (dEnds Q X0)
  repeat' contradiction
  refine mk_t fun p hp => ?_
  repeat' contradiction
  refine mk_t fun q1 hq1 => ?_
  have hqp : q1 ≠ p := ne_new sup_same hq1
  have hSq : S q1 = none := (sup_ne hqp).symm.trans hq1
  repeat' contradiction
  refine mk_t fun r hr => ?_
  have hrq : r ≠ q1 := ne_new sup_same hr
  have hrp : r ≠ p := ne_new (S := sup (sup S p (.lst [])) q1 (.lst [])) ((sup_ne hqp.symm).trans sup_same) hr
  have hSr : S r = none := (sup_ne hrp).symm.trans ((sup_ne hrq).symm.trans hr)
  have hF : Fewer S (sup (sup (sup S p (.lst [])) q1 (.lst [])) r (.lst [])) := fewer_more (fewer_more (fewer_more fewer_rfl hp) hSq) hSr
  have hP : (sup (sup (sup S p (.lst [])) q1 (.lst [])) r (.lst [])) p = some (.lst []) := (sup_ne hrp.symm).trans ((sup_ne hqp.symm).trans sup_same)
  have hQ : (sup (sup (sup S p (.lst [])) q1 (.lst [])) r (.lst [])) q1 = some (.lst []) := (sup_ne hrq.symm).trans sup_same
  have hR : (sup (sup (sup S p (.lst [])) q1 (.lst [])) r (.lst [])) r = some (.lst []) := sup_same
  generalize sup (sup (sup S p (.lst [])) q1 (.lst [])) r (.lst []) = S0 at hF hP hQ hR ⊢
  repeat' contradiction
  refine ne_p (pln_map fun x hx => pln_nb (hT.nm x hx)) (.lst 0 [] fun w h => nomatch h) fun b hb => ?_
  repeat' contradiction
  have hc : (if b = true then (1 : Int) else 0) = if town = [] then 0 else 1 := by
    by_cases c : town = []
    · rw [if_pos c, if_neg (fun z => hb.mp z (by rw [c]; rfl))]
    · rw [if_neg c, if_pos (hb.mpr fun z => c (by injection z with z; exact List.map_eq_nil_iff.mp z))]
  generalize (if b = true then (1 : Int) else 0) = c at hc ⊢
  have hc2 : c = 0 ∨ c = 1 := by rw [hc]; split <;> simp
  refine b_mul (mul_ok (by omega) (by omega)) ?_
  have hmc : 0 ≤ (m : Int) * c ∧ (m : Int) * c ≤ m := by rcases hc2 with rfl | rfl <;> omega
  have hne : 0 < (m : Int) * c → town ≠ [] := fun h e => by rw [hc, if_pos e] at h; omega
  generalize (m : Int) * c = N at hmc hne ⊢
  refine rg1 (by omega) ?_
  have d3 : 0 ≤ seed / 3 ∧ seed / 3 < 2147483648 := ⟨Int.ediv_nonneg s0 (by decide), Int.lt_of_le_of_lt (Int.ediv_le_self _ s0) s1⟩
  refine for_rng (fun i ρ S' => ∃ (os us : List En) (ks : List (Str × Str)) (r5 r6 r7 r8 : Option W),
      ρ = [some (.lst (town.map eN)), some (.int seed), some (.int (m : Nat)), some (.tup [.ref p, .ref q1]), some (.ref r), r5, r6, r7, r8] ∧
      S' p = some (.lst (os.map eO)) ∧ S' q1 = some (.lst (us.map eO)) ∧ S' r = some (.lst (ks.map eK2)) ∧ Fewer S S' ∧ DayOk town (os ++ us) ∧ (∀ k ∈ ks, Nme k.1 ∧ Nme k.2) ∧
      (∀ k, k ∈ ks ↔ k ∈ (os ++ us).map fun x => (x.1, x.2.1)) ∧ ks.length ≤ i ∧ os.length + us.length ≤ i ∧ ∀ x ∈ os ++ us, ∃ j : Nat, j < 4 ∧ x.2.1 = nmK (seed / 3) j)
    ⟨[], [], [], _, _, _, _, rfl, hP, hQ, hR, hF, ⟨List.nodup_nil, (fun _ h => nomatch h), (fun _ h => nomatch h), (fun _ h => nomatch h)⟩, (fun _ h => nomatch h), fun k => ⟨(fun h => nomatch h), (fun h => nomatch h)⟩, Nat.le_refl _, Nat.le_refl _, fun _ h => nomatch h⟩ (fun _ _ _ _ => trivial) (fun i ρ S' hi h K hK => ?_) (fun ρ S' h => ?_)
  · obtain ⟨os, us, ks, r5, r6, r7, r8, rfl, hP, hQ, hR, hF, hD, hn', hS, e1, e2, hJ⟩ := h
    have hTn := hne (by omega)
    have hT0 : 0 < town.length := List.length_pos_iff.mpr hTn
    repeat' contradiction
    rw [ht]
    refine u_turned s0 s1 (by omega) (by omega) ?_
    have tb := turn_bd seed (40 + (0 + (i : Int)))
    generalize turnF seed (40 + (0 + (i : Int))) = nu at tb ⊢
    repeat' contradiction
    rw [List.length_map]
    refine b_mod (by omega) ?_
    have g1 := Int.emod_nonneg nu (show ((town.length : Nat) : Int) ≠ 0 by omega)
    have g2 := Int.emod_lt_of_pos nu (show (0 : Int) < (town.length : Nat) by omega)
    obtain ⟨x, hx⟩ : ∃ x, town[(nu % (town.length : Int)).toNat]? = some x := ⟨town[(nu % (town.length : Int)).toNat]'(by omega), List.getElem?_eq_getElem _⟩
    refine ix_map g1 hx ?_
    repeat' contradiction
    refine b_div (div_ok (by decide) (by decide)) ?_
    repeat' contradiction
    refine b_div (div_ok (by decide) (by decide)) ?_
    repeat' contradiction
    rw [hn]
    have f1 := Int.emod_nonneg (nu / 13) (show (4 : Int) ≠ 0 by decide)
    have f2 := Int.emod_lt_of_pos (nu / 13) (show (0 : Int) < 4 by decide)
    refine u_name d3.1 d3.2 f1 (by omega) ?_
    have hxm : x ∈ town := List.mem_of_getElem? hx
    have hxn := hT.nm x hxm
    have hyn : Nme (nmK (seed / 3) (nu / 13 % 4).toNat) := nmK_nme (by omega)
    have hyj : ∃ j : Nat, j < 4 ∧ nmK (seed / 3) (nu / 13 % 4).toNat = nmK (seed / 3) j := ⟨_, by omega, rfl⟩
    generalize nmK (seed / 3) (nu / 13 % 4).toNat = y at hyn hyj ⊢
    repeat' contradiction
    refine notin_lp (x := eK2 (x.1, y)) (rdl_c hR) (pln_k2 hxn hyn) (m := 1) (fun w hw => ?_) fun b hb => ?_
    · obtain ⟨k, hk, rfl⟩ := List.mem_map.mp hw
      exact pln_k2 (hn' k hk).1 (hn' k hk).2
    rw [mem_eK2, hS] at hb
    by_cases hin : (x.1, y) ∈ (os ++ us).map fun x => (x.1, x.2.1)
    · refine iteF' (b_f hb fun z => z hin) ?_
      repeat' contradiction
      exact hK _ _ ⟨os, us, ks, _, _, _, _, rfl, hP, hQ, hR, hF, hD, hn', hS, by omega, by omega, hJ⟩
    · refine iteT' (hb.mpr hin) ?_
      repeat' contradiction
      refine m_rcv rfl hR ?_
      repeat' contradiction
      refine m_app hR (lt_line (by rw [List.length_map]; omega)) ?_
      repeat' contradiction
      refine b_div (div_ok (by decide) (by decide)) ?_
      repeat' contradiction
      refine b_div (div_ok (by decide) (by decide)) ?_
      repeat' contradiction
      refine b_div (div_ok (by decide) (by decide)) ?_
      repeat' contradiction
      have k1 := Int.emod_nonneg (nu / 52) (show (6 : Int) ≠ 0 by decide)
      have k2 := Int.emod_lt_of_pos (nu / 52) (show (0 : Int) < 6 by decide)
      have k3 : 0 ≤ nu / 312 := Int.ediv_nonneg tb.1 (by decide)
      have k4 : nu / 312 ≤ nu := Int.ediv_le_self _ tb.1
      have k5 := Int.emod_nonneg (nu / 312) (show (30 : Int) ≠ 0 by decide)
      have k6 := Int.emod_lt_of_pos (nu / 312) (show (0 : Int) < 30 by decide)
      refine ix_pick (P := fun w => ∃ z : Int, w = .int z ∧ 1 ≤ z ∧ z ≤ 10 ^ 30) k1 (by simp only [List.length_cons, List.length_nil]; omega) ?_ ?_
      · simp only [List.forall_mem_cons]
        refine ⟨?_, ?_, ?_, ?_, ?_, ?_, fun _ h => nomatch h⟩ <;> exact ⟨_, rfl, by omega, by omega⟩
      rintro _ ⟨ho, rfl, h1, h2⟩
      have hks3 : ks.map eK2 ++ [W.tup [W.str x.1, W.str y]] = (ks ++ [(x.1, y)]).map eK2 := by rw [List.map_append]; rfl
      rw [hks3]
      have hn3 : ∀ k ∈ ks ++ [(x.1, y)], Nme k.1 ∧ Nme k.2 := fun k hk => (List.mem_append.mp hk).elim (hn' k) fun z => by rw [List.mem_singleton.mp z]; exact ⟨hxn, hyn⟩
      have hS3 : ∀ k, k ∈ ks ++ [(x.1, y)] ↔ k = (x.1, y) ∨ k ∈ (os ++ us).map fun x => (x.1, x.2.1) := fun k => by
        rw [List.mem_append, List.mem_singleton, hS, or_comm]
      have hl3 : (ks ++ [(x.1, y)]).length ≤ i + 1 := by rw [List.length_append]; simp; omega
      have hR3 : sup S' r (.lst ((ks ++ [(x.1, y)]).map eK2)) r = some (.lst ((ks ++ [(x.1, y)]).map eK2)) := sup_same
      have hP3 : sup S' r (.lst ((ks ++ [(x.1, y)]).map eK2)) p = some (.lst (os.map eO)) := (sup_ne hrp.symm).trans hP
      have hQ3 : sup S' r (.lst ((ks ++ [(x.1, y)]).map eK2)) q1 = some (.lst (us.map eO)) := (sup_ne hrq.symm).trans hQ
      have hF3 : Fewer S (sup S' r (.lst ((ks ++ [(x.1, y)]).map eK2))) := fewer_more hF hSr
      generalize ks ++ [(x.1, y)] = ks' at hn3 hS3 hl3 hR3 hP3 hQ3 hF3 ⊢
      generalize sup S' r (.lst (ks'.map eK2)) = S3 at hR3 hP3 hQ3 hF3 ⊢
      repeat' contradiction
      refine b_div (div_ok (by decide) (by decide)) ?_
      repeat' contradiction
      have u1 := Int.emod_nonneg (nu / 7) (show (2 : Int) ≠ 0 by decide)
      have u2 := Int.emod_lt_of_pos (nu / 7) (show (0 : Int) < 2 by decide)
      have hsd : nu / 7 % 2 = 0 ∨ nu / 7 % 2 = 1 := by omega
      rcases hsd with e | e <;> rw [e]
      · refine ix_t rfl ?_
        refine m_rcv rfl hP3 ?_
        repeat' contradiction
        refine b_tups (by simp) (by simp only [List.length_cons, List.length_nil]; decide) ?_
        repeat' contradiction
        refine m_app hP3 (lt_line (by rw [List.length_map]; omega)) ?_
        repeat' contradiction
        have hperm : (os ++ [(x.1, y, ho)] ++ us).Perm ((x.1, y, ho) :: (os ++ us)) := by
          rw [List.append_assoc]; exact List.perm_middle
        refine hK _ _ ⟨os ++ [(x.1, y, ho)], us, ks', _, _, _, _, rfl, by rw [List.map_append]; exact sup_same, (sup_ne hqp).trans hQ3, (sup_ne hrp).trans hR3, fewer_more hF3 hp,
          hD.add (x := (x.1, y, ho)) (List.mem_map.mpr ⟨x, hxm, rfl⟩) hyn ⟨h1, h2⟩ hin hperm, hn3, fun k => ?_, hl3, by rw [List.length_append]; simp; omega, fun z hz => by
          rcases List.mem_cons.mp (hperm.mem_iff.mp hz) with rfl | hz
          · exact hyj
          · exact hJ z hz⟩
        rw [hS3, (hperm.map _).mem_iff, List.map_cons, List.mem_cons]
      · refine ix_t rfl ?_
        refine m_rcv rfl hQ3 ?_
        repeat' contradiction
        refine b_tups (by simp) (by simp only [List.length_cons, List.length_nil]; decide) ?_
        repeat' contradiction
        refine m_app hQ3 (lt_line (by rw [List.length_map]; omega)) ?_
        repeat' contradiction
        have hperm : (os ++ (us ++ [(x.1, y, ho)])).Perm ((x.1, y, ho) :: (os ++ us)) := by
          rw [← List.append_assoc]; exact (List.perm_append_comm (l₁ := os ++ us) (l₂ := [(x.1, y, ho)]))
        refine hK _ _ ⟨os, us ++ [(x.1, y, ho)], ks', _, _, _, _, rfl, (sup_ne hqp.symm).trans hP3, by rw [List.map_append]; exact sup_same, (sup_ne hrq).trans hR3, fewer_more hF3 hSq,
          hD.add (x := (x.1, y, ho)) (List.mem_map.mpr ⟨x, hxm, rfl⟩) hyn ⟨h1, h2⟩ hin hperm, hn3, fun k => ?_, hl3, by rw [List.length_append]; simp; omega, fun z hz => by
          rcases List.mem_cons.mp (hperm.mem_iff.mp hz) with rfl | hz
          · exact hyj
          · exact hJ z hz⟩
        rw [hS3, (hperm.map _).mem_iff, List.map_cons, List.mem_cons]
  · obtain ⟨os, us, ks, r5, r6, r7, r8, rfl, hP, hQ, hR, hF, hD, hn', hS, e1, e2, hJ⟩ := h
    repeat' contradiction
    refine s_gfr2 rfl hP hQ hqp.symm ?_
    dsimp only [List.set]
    repeat' contradiction
    exact d_ret (fewer_del (fewer_del hF hp) hSq) (q os us hD (by omega) hJ)
end LL

set_option Elab.async false
set_option linter.all false
set_option maxRecDepth 100000
set_option maxHeartbeats 4000000
namespace K01
open PySem PySem.Spec PyProof.Rows L2 MP
def topS (i : Nat) : Stmt := PySem.Challenge.pw_hourring_k01_whole_towns_and_days.main.body.getD i (.Pass ⟨0, 0, 0, 0⟩)
def Gm : Gv := { fns := [("is_name", 1), ("is_whole", 3), ("is_row", 2), ("is_neighbour", 1), ("need_town", 1), ("is_told", 2), ("skills_of", 1), ("need_day", 2), ("_law_mixed", 2), ("_law_turned", 2), ("_law_name", 2), ("_law_size", 1), ("_law_town", 2), ("_law_day", 3), ("_law_is_number", 3), ("_law_is_name", 1), ("_law_good_one", 1), ("_law_good_town", 1), ("_law_good_told", 2), ("_law_good_day", 2), ("_law_odd", 1), ("_law_changed", 2), ("_law_bent", 3), ("_law_refused", 3), ("_law_skills", 1), ("_law_days", 3), ("_law_words", 1), ("law", 1)], glb := [("MOST", (.int 1000000000000000000000000000000)), ("MOST_NAME", (.int 8)), ("MOST_NEIGHBOURS", (.int 12)), ("MOST_SKILLS", (.int 12)), ("MOST_OPEN", (.int 40)), ("LETTERS", (.str "abcdefghijklmnopqrstuvwxyz"))], exc := ["BadTown", "BadDay"], isx := [("BadDeed", ["BadTown", "BadDay"], []), ("NoDeed", ["BadTown", "BadDay"], []), ("TooMany", ["BadTown", "BadDay"], []), ("Twice", ["BadTown", "BadDay"], []), ("NoNeighbour", ["BadTown", "BadDay"], []), ("Both", ["BadTown", "BadDay"], []), ("OutOfBounds", ["BadTown", "BadDay"], []), ("BadTown", ["BadTown", "BadDay"], ["BadTown"]), ("BadDay", ["BadTown", "BadDay"], ["BadDay"]), ("ValueError", ["BadTown", "BadDay"], ["BadTown", "BadDay"])], tcs := [("RingError", ["BadTown", "BadDay"])] }
def Gx : Gv := { Gm with xr := true, tr := false }
def Gt : Gv := { Gm with xr := false, tr := true }
/-! 0: is_name -/
abbrev st0 : Stmt := topS 18
def N0 : List Str := ["thing", "letter"]
def P0 : List Str := ["thing"]
def c0 : CS := EX.c_is_name 
theorem z0 : FnScope N0 P0 (defScope st0) := ⟨rfl, rfl, rfl, by decide +kernel, rfl, by decide +kernel, by decide +kernel⟩
theorem k0 : (cks Gm N0 0 c0).b ⟨defScope st0, none⟩ (defBody st0) = true := by decide +kernel
/-! 1: is_whole -/
abbrev st1 : Stmt := topS 19
def N1 : List Str := ["thing", "least", "most"]
def P1 : List Str := ["thing", "least", "most"]
def c1 : CS :=
  (.seq (.ret (.an (.cons (.isi (.var 0) .int) (.cons (.nt (.isi (.var 0) .bl)) (.cons (.chain .LtE .LtE (.var 1) (.var 0) (.var 2)) .nil))))) .nil)
theorem z1 : FnScope N1 P1 (defScope st1) := ⟨rfl, rfl, rfl, by decide +kernel, rfl, by decide +kernel, by decide +kernel⟩
theorem k1 : (cks Gm N1 1 c1).b ⟨defScope st1, none⟩ (defBody st1) = true := by decide +kernel
/-! 2: is_row -/
abbrev st2 : Stmt := topS 20
def N2 : List Str := ["thing", "many"]
def P2 : List Str := ["thing", "many"]
def c2 : CS := EX.c_is_row 
theorem z2 : FnScope N2 P2 (defScope st2) := ⟨rfl, rfl, rfl, by decide +kernel, rfl, by decide +kernel, by decide +kernel⟩
theorem k2 : (cks Gm N2 2 c2).b ⟨defScope st2, none⟩ (defBody st2) = true := by decide +kernel
/-! 3: is_neighbour -/
abbrev st3 : Stmt := topS 21
def N3 : List Str := ["thing", "number"]
def P3 : List Str := ["thing"]
def c3 : CS :=
  (.seq (.iff (.or (.cons (.nt (.call 2 (.cons (.var 0) (.cons (.cst (.int 4)) .nil)))) (.cons (.nt (.call 0 (.cons (.idx (.var 0) (.cst (.int 0))) .nil))) .nil))) (.seq (.ret (.cst (.bool false))) .nil) .nil) (.seq (.iff (.nt (.blt .all false (.cons (.lc false [("number", 1)] (.tnm 1) (.iseq (.slc false (.var 0) (.cst (.int 1)) .nil)) .nil (.call 1 (.cons (.var 1) (.cons (.neg (.glb "MOST" (.int 1000000000000000000000000000000))) (.cons (.glb "MOST" (.int 1000000000000000000000000000000)) .nil))))) .nil))) (.seq (.ret (.cst (.bool false))) .nil) .nil) (.seq (.ret (.chain .LtE .LtE (.idx (.var 0) (.cst (.int 2))) (.idx (.var 0) (.cst (.int 1))) (.idx (.var 0) (.cst (.int 3))))) .nil)))
theorem z3 : FnScope N3 P3 (defScope st3) := ⟨rfl, rfl, rfl, by decide +kernel, rfl, by decide +kernel, by decide +kernel⟩
theorem k3 : (cks Gm N3 3 c3).b ⟨defScope st3, none⟩ (defBody st3) = true := by decide +kernel
/-! 4: need_town -/
abbrev st4 : Stmt := topS 22
def N4 : List Str := ["town", "one"]
def P4 : List Str := ["town"]
def c4 : CS :=
  (.seq (.iff (.or (.cons (.nt (.isi (.var 0) .lst)) (.cons (.cmp .Gt (.blt .len false (.cons (.var 0) .nil)) (.glb "MOST_NEIGHBOURS" (.int 12))) (.cons (.nt (.blt .all false (.cons (.lc false [("one", 1)] (.tnm 1) (.iseq (.var 0)) .nil (.call 3 (.cons (.var 1) .nil))) .nil))) .nil)))) (.seq (.rse "BadTown" "no town") .nil) .nil) (.seq (.iff (.cmp .Lt (.lsts (.lc false [("one", 1)] (.tnm 1) (.iseq (.var 0)) .nil (.idx (.var 1) (.cst (.int 0))))) (.blt .len false (.cons (.var 0) .nil))) (.seq (.rse "BadTown" "a neighbour twice") .nil) .nil) .nil))
theorem z4 : FnScope N4 P4 (defScope st4) := ⟨rfl, rfl, rfl, by decide +kernel, rfl, by decide +kernel, by decide +kernel⟩
theorem k4 : (cks Gx N4 4 c4).b ⟨defScope st4, none⟩ (defBody st4) = true := by decide +kernel
/-! 5: is_told -/
abbrev st5 : Stmt := topS 23
def N5 : List Str := ["thing", "names"]
def P5 : List Str := ["thing", "names"]
def c5 : CS :=
  (.seq (.iff (.or (.cons (.nt (.call 2 (.cons (.var 0) (.cons (.cst (.int 3)) .nil)))) (.cons (.nt (.call 0 (.cons (.idx (.var 0) (.cst (.int 0))) .nil))) (.cons (.nt (.call 0 (.cons (.idx (.var 0) (.cst (.int 1))) .nil))) .nil)))) (.seq (.ret (.cst (.bool false))) .nil) .nil) (.seq (.ret (.an (.cons (.cmp .In (.idx (.var 0) (.cst (.int 0))) (.var 1)) (.cons (.call 1 (.cons (.idx (.var 0) (.cst (.int 2))) (.cons (.cst (.int 1)) (.cons (.glb "MOST" (.int 1000000000000000000000000000000)) .nil)))) .nil)))) .nil))
theorem z5 : FnScope N5 P5 (defScope st5) := ⟨rfl, rfl, rfl, by decide +kernel, rfl, by decide +kernel, by decide +kernel⟩
theorem k5 : (cks Gm N5 5 c5).b ⟨defScope st5, none⟩ (defBody st5) = true := by decide +kernel
/-! 6: skills_of -/
abbrev st6 : Stmt := topS 25
def N6 : List Str := ["day", "found", "one"]
def P6 : List Str := ["day"]
def c6 : CS :=
  (.seq (.asg (.tnm 1) (.lst true .nil)) (.seq (.fr (.tnm 2) (.iseq (.bin false .add (.idx (.var 0) (.cst (.int 0))) (.idx (.var 0) (.cst (.int 1))))) (.seq (.iff (.cmp .NotIn (.idx (.var 2) (.cst (.int 1))) (.var 1)) (.seq (.expr (.mth .append (.var 1) (.cons (.idx (.var 2) (.cst (.int 1))) .nil))) .nil) .nil) .nil)) (.seq (.gfrz 1) (.seq (.ret (.var 1)) .nil))))
theorem z6 : FnScope N6 P6 (defScope st6) := ⟨rfl, rfl, rfl, by decide +kernel, rfl, by decide +kernel, by decide +kernel⟩
theorem k6 : (cks Gm N6 6 c6).b ⟨defScope st6, none⟩ (defBody st6) = true := by decide +kernel
/-! 7: need_day -/
abbrev st7 : Stmt := topS 24
def N7 : List Str := ["town", "day", "told", "names", "one"]
def P7 : List Str := ["town", "day"]
def c7 : CS :=
  (.seq (.iff (.or (.cons (.nt (.call 2 (.cons (.var 1) (.cons (.cst (.int 2)) .nil)))) (.cons (.nt (.isi (.idx (.var 1) (.cst (.int 0))) .lst)) (.cons (.nt (.isi (.idx (.var 1) (.cst (.int 1))) .lst)) .nil)))) (.seq (.rse "BadDay" "no day") .nil) .nil) (.seq (.asg (.tnm 2) (.bin false .add (.idx (.var 1) (.cst (.int 0))) (.idx (.var 1) (.cst (.int 1))))) (.seq (.asg (.tnm 3) (.lc false [("one", 4)] (.tnm 4) (.iseq (.var 0)) .nil (.idx (.var 4) (.cst (.int 0))))) (.seq (.iff (.or (.cons (.cmp .Gt (.blt .len false (.cons (.var 2) .nil)) (.glb "MOST_OPEN" (.int 40))) (.cons (.nt (.blt .all false (.cons (.lc false [("one", 4)] (.tnm 4) (.iseq (.var 2)) .nil (.call 5 (.cons (.var 4) (.cons (.var 3) .nil)))) .nil))) .nil))) (.seq (.rse "BadDay" "no day of the town") .nil) .nil) (.seq (.iff (.or (.cons (.cmp .Lt (.lset (.lc false [("one", 4)] (.tnm 4) (.iseq (.var 2)) .nil (.slc false (.var 4) .nil (.cst (.int 2))))) (.blt .len false (.cons (.var 2) .nil))) (.cons (.cmp .Gt (.blt .len false (.cons (.call 6 (.cons (.var 1) .nil)) .nil)) (.glb "MOST_SKILLS" (.int 12))) .nil))) (.seq (.rse "BadDay" "a skill twice by one, or too many") .nil) .nil) .nil)))))
theorem z7 : FnScope N7 P7 (defScope st7) := ⟨rfl, rfl, rfl, by decide +kernel, rfl, by decide +kernel, by decide +kernel⟩
theorem k7 : (cks Gx N7 7 c7).b ⟨defScope st7, none⟩ (defBody st7) = true := by decide +kernel
/-! 8: _law_mixed -/
abbrev st8 : Stmt := topS 27
def N8 : List Str := ["_law_script", "_law_k", "_law_cell"]
def P8 : List Str := ["_law_script", "_law_k"]
def c8 : CS := LK.c_mixed 
theorem z8 : FnScope N8 P8 (defScope st8) := ⟨rfl, rfl, rfl, by decide +kernel, rfl, by decide +kernel, by decide +kernel⟩
theorem k8 : (cks Gm N8 8 c8).b ⟨defScope st8, none⟩ (defBody st8) = true := by decide +kernel
/-! 9: _law_turned -/
abbrev st9 : Stmt := topS 28
def N9 : List Str := ["_law_number", "_law_k"]
def P9 : List Str := ["_law_number", "_law_k"]
def c9 : CS := LK.c_turned 
theorem z9 : FnScope N9 P9 (defScope st9) := ⟨rfl, rfl, rfl, by decide +kernel, rfl, by decide +kernel, by decide +kernel⟩
theorem k9 : (cks Gm N9 9 c9).b ⟨defScope st9, none⟩ (defBody st9) = true := by decide +kernel
/-! 10: _law_name -/
abbrev st10 : Stmt := topS 29
def N10 : List Str := ["_law_seed", "_law_k", "_law_size_here", "_law_tail", "_law_at", "_law_j"]
def P10 : List Str := ["_law_seed", "_law_k"]
def c10 : CS := LK.c_name 9
theorem z10 : FnScope N10 P10 (defScope st10) := ⟨rfl, rfl, rfl, by decide +kernel, rfl, by decide +kernel, by decide +kernel⟩
theorem k10 : (cks Gm N10 10 c10).b ⟨defScope st10, none⟩ (defBody st10) = true := by decide +kernel
/-! 11: _law_size -/
abbrev st11 : Stmt := topS 30
def N11 : List Str := ["_law_number", "_law_some"]
def P11 : List Str := ["_law_number"]
def c11 : CS := LK.c_size 
theorem z11 : FnScope N11 P11 (defScope st11) := ⟨rfl, rfl, rfl, by decide +kernel, rfl, by decide +kernel, by decide +kernel⟩
theorem k11 : (cks Gm N11 11 c11).b ⟨defScope st11, none⟩ (defBody st11) = true := by decide +kernel
/-! 12: _law_town -/
abbrev st12 : Stmt := topS 31
def N12 : List Str := ["_law_seed", "_law_many", "_law_found", "_law_k", "_law_low", "_law_purse", "_law_high", "_law_j"]
def P12 : List Str := ["_law_seed", "_law_many"]
def c12 : CS := LK.c_town 11 10 9
theorem z12 : FnScope N12 P12 (defScope st12) := ⟨rfl, rfl, rfl, by decide +kernel, rfl, by decide +kernel, by decide +kernel⟩
theorem k12 : (cks Gm N12 12 c12).b ⟨defScope st12, none⟩ (defBody st12) = true := by decide +kernel
/-! 13: _law_day -/
abbrev st13 : Stmt := topS 32
def N13 : List Str := ["_law_town_here", "_law_seed", "_law_many", "_law_found", "_law_pairs", "_law_k", "_law_number", "_law_pair", "_law_hours"]
def P13 : List Str := ["_law_town_here", "_law_seed", "_law_many"]
def c13 : CS := LK.c_day 9 10
theorem z13 : FnScope N13 P13 (defScope st13) := ⟨rfl, rfl, rfl, by decide +kernel, rfl, by decide +kernel, by decide +kernel⟩
theorem k13 : (cks Gm N13 13 c13).b ⟨defScope st13, none⟩ (defBody st13) = true := by decide +kernel
/-! 14: _law_is_number -/
abbrev st14 : Stmt := topS 33
def N14 : List Str := ["_law_thing", "_law_least", "_law_most"]
def P14 : List Str := ["_law_thing", "_law_least", "_law_most"]
def c14 : CS :=
  (.seq (.ret (.an (.cons (.isi (.var 0) .int) (.cons (.nt (.isi (.var 0) .bl)) (.cons (.chain .LtE .LtE (.var 1) (.var 0) (.var 2)) .nil))))) .nil)
theorem z14 : FnScope N14 P14 (defScope st14) := ⟨rfl, rfl, rfl, by decide +kernel, rfl, by decide +kernel, by decide +kernel⟩
theorem k14 : (cks Gm N14 14 c14).b ⟨defScope st14, none⟩ (defBody st14) = true := by decide +kernel
/-! 15: _law_is_name -/
abbrev st15 : Stmt := topS 34
def N15 : List Str := ["_law_thing", "_law_sign"]
def P15 : List Str := ["_law_thing"]
def c15 : CS :=
  (.seq (.iff (.or (.cons (.nt (.isi (.var 0) .str)) (.cons (.nt (.chain .Lt .Lt (.cst (.int 0)) (.blt .len false (.cons (.var 0) .nil)) (.cst (.int 9)))) .nil))) (.seq (.ret (.cst (.bool false))) .nil) .nil) (.seq (.ret (.cmp .Eq (.lc false [("_law_sign", 1)] (.tnm 1) (.iseq (.var 0)) (.cons (.cmp .NotIn (.var 1) (.cst (.str "abcdefghijklmnopqrstuvwxyz"))) .nil) (.var 1)) (.lst false .nil))) .nil))
theorem z15 : FnScope N15 P15 (defScope st15) := ⟨rfl, rfl, rfl, by decide +kernel, rfl, by decide +kernel, by decide +kernel⟩
theorem k15 : (cks Gm N15 15 c15).b ⟨defScope st15, none⟩ (defBody st15) = true := by decide +kernel
/-! 16: _law_good_one -/
abbrev st16 : Stmt := topS 35
def N16 : List Str := ["_law_thing", "_law_one"]
def P16 : List Str := ["_law_thing"]
def c16 : CS :=
  (.seq (.iff (.or (.cons (.nt (.isi (.var 0) .tup)) (.cons (.cmp .NotEq (.blt .len false (.cons (.var 0) .nil)) (.cst (.int 4))) (.cons (.nt (.call 15 (.cons (.idx (.var 0) (.cst (.int 0))) .nil))) .nil)))) (.seq (.ret (.cst (.bool false))) .nil) .nil) (.seq (.iff (.cmp .In (.cst (.bool false)) (.lc false [("_law_one", 1)] (.tnm 1) (.iseq (.slc false (.var 0) (.cst (.int 1)) .nil)) .nil (.call 14 (.cons (.var 1) (.cons (.neg (.bin false .pow (.cst (.int 10)) (.cst (.int 30)))) (.cons (.bin false .pow (.cst (.int 10)) (.cst (.int 30))) .nil)))))) (.seq (.ret (.cst (.bool false))) .nil) .nil) (.seq (.ret (.chain .LtE .LtE (.idx (.var 0) (.cst (.int 2))) (.idx (.var 0) (.cst (.int 1))) (.idx (.var 0) (.cst (.int 3))))) .nil)))
theorem z16 : FnScope N16 P16 (defScope st16) := ⟨rfl, rfl, rfl, by decide +kernel, rfl, by decide +kernel, by decide +kernel⟩
theorem k16 : (cks Gm N16 16 c16).b ⟨defScope st16, none⟩ (defBody st16) = true := by decide +kernel
/-! 17: _law_good_town -/
abbrev st17 : Stmt := topS 36
def N17 : List Str := ["_law_thing", "_law_names", "_law_one", "_law_name_here"]
def P17 : List Str := ["_law_thing"]
def c17 : CS :=
  (.seq (.iff (.or (.cons (.nt (.isi (.var 0) .lst)) (.cons (.cmp .Gt (.blt .len false (.cons (.var 0) .nil)) (.cst (.int 12))) (.cons (.cmp .In (.cst (.bool false)) (.lc false [("_law_one", 2)] (.tnm 2) (.iseq (.var 0)) .nil (.call 16 (.cons (.var 2) .nil)))) .nil)))) (.seq (.ret (.cst (.bool false))) .nil) .nil) (.seq (.asg (.tnm 1) (.lc false [("_law_one", 2)] (.tnm 2) (.iseq (.var 0)) .nil (.idx (.var 2) (.cst (.int 0))))) (.seq (.ret (.cmp .Eq (.lc false [("_law_name_here", 3)] (.tnm 3) (.iseq (.var 1)) (.cons (.cmp .Gt (.mth .count (.var 1) (.cons (.var 3) .nil)) (.cst (.int 1))) .nil) (.var 3)) (.lst false .nil))) .nil)))
theorem z17 : FnScope N17 P17 (defScope st17) := ⟨rfl, rfl, rfl, by decide +kernel, rfl, by decide +kernel, by decide +kernel⟩
theorem k17 : (cks Gm N17 17 c17).b ⟨defScope st17, none⟩ (defBody st17) = true := by decide +kernel
/-! 18: _law_good_told -/
abbrev st18 : Stmt := topS 37
def N18 : List Str := ["_law_thing", "_law_names"]
def P18 : List Str := ["_law_thing", "_law_names"]
def c18 : CS :=
  (.seq (.iff (.or (.cons (.nt (.isi (.var 0) .tup)) (.cons (.cmp .NotEq (.blt .len false (.cons (.var 0) .nil)) (.cst (.int 3))) (.cons (.cmp .NotIn (.idx (.var 0) (.cst (.int 0))) (.var 1)) .nil)))) (.seq (.ret (.cst (.bool false))) .nil) .nil) (.seq (.ret (.an (.cons (.call 15 (.cons (.idx (.var 0) (.cst (.int 1))) .nil)) (.cons (.call 14 (.cons (.idx (.var 0) (.cst (.int 2))) (.cons (.cst (.int 1)) (.cons (.bin false .pow (.cst (.int 10)) (.cst (.int 30))) .nil)))) .nil)))) .nil))
theorem z18 : FnScope N18 P18 (defScope st18) := ⟨rfl, rfl, rfl, by decide +kernel, rfl, by decide +kernel, by decide +kernel⟩
theorem k18 : (cks Gm N18 18 c18).b ⟨defScope st18, none⟩ (defBody st18) = true := by decide +kernel
/-! 19: _law_good_day -/
abbrev st19 : Stmt := topS 38
def N19 : List Str := ["_law_town_here", "_law_thing", "_law_told", "_law_names", "_law_pairs", "_law_one"]
def P19 : List Str := ["_law_town_here", "_law_thing"]
def c19 : CS :=
  (.seq (.iff (.or (.cons (.nt (.isi (.var 1) .tup)) (.cons (.cmp .NotEq (.blt .len false (.cons (.var 1) .nil)) (.cst (.int 2))) (.cons (.cmp .In (.cst (.bool false)) (.lc false [("_law_one", 5)] (.tnm 5) (.iseq (.var 1)) .nil (.isi (.var 5) .lst))) .nil)))) (.seq (.ret (.cst (.bool false))) .nil) .nil) (.seq (.asg (.tnm 2) (.bin false .add (.idx (.var 1) (.cst (.int 0))) (.idx (.var 1) (.cst (.int 1))))) (.seq (.asg (.tnm 3) (.lc false [("_law_one", 5)] (.tnm 5) (.iseq (.var 0)) .nil (.idx (.var 5) (.cst (.int 0))))) (.seq (.iff (.or (.cons (.cmp .Gt (.blt .len false (.cons (.var 2) .nil)) (.cst (.int 40))) (.cons (.cmp .In (.cst (.bool false)) (.lc false [("_law_one", 5)] (.tnm 5) (.iseq (.var 2)) .nil (.call 18 (.cons (.var 5) (.cons (.var 3) .nil))))) .nil))) (.seq (.ret (.cst (.bool false))) .nil) .nil) (.seq (.asg (.tnm 4) (.lc false [("_law_one", 5)] (.tnm 5) (.iseq (.var 2)) .nil (.slc false (.var 5) .nil (.cst (.int 2))))) (.seq (.ret (.an (.cons (.cmp .Eq (.lset (.var 4)) (.blt .len false (.cons (.var 4) .nil))) (.cons (.cmp .Lt (.lsts (.lc false [("_law_one", 5)] (.tnm 5) (.iseq (.var 2)) .nil (.idx (.var 5) (.cst (.int 1))))) (.cst (.int 13))) .nil)))) .nil))))))
theorem z19 : FnScope N19 P19 (defScope st19) := ⟨rfl, rfl, rfl, by decide +kernel, rfl, by decide +kernel, by decide +kernel⟩
theorem k19 : (cks Gm N19 19 c19).b ⟨defScope st19, none⟩ (defBody st19) = true := by decide +kernel
/-! 20: _law_odd -/
abbrev st20 : Stmt := topS 39
def N20 : List Str := ["_law_number", "_law_sign", "_law_some"]
def P20 : List Str := ["_law_number"]
def c20 : CS :=
  (.seq (.asg (.tnm 1) (.idx (.cst (.str "0123456789-_.,;:'!?()[]{}<>=+*/@#&|^~$ABCDEFGHIJKLMNOPQRSTUVWXYZ")) (.bin false .mod (.bin false .fdiv (.var 0) (.cst (.int 18))) (.cst (.int 64))))) (.seq (.asg (.tnm 2) (.lst false (.cons (.cst .none) (.cons (.cst (.bool true)) (.cons (.cst (.str "")) (.cons (.cst (.str "a")) (.cons (.cst (.str "A")) (.cons (.cst (.str "abcdefghi")) (.cons (.cst (.int 5)) (.cons (.cst (.int 0)) (.cons (.neg (.cst (.int 1))) (.cons (.bin false .pow (.cst (.int 10)) (.cst (.int 30))) (.cons (.bin false .add (.bin false .pow (.cst (.int 10)) (.cst (.int 30))) (.cst (.int 1))) (.cons (.bin false .sub (.neg (.bin false .pow (.cst (.int 10)) (.cst (.int 30)))) (.cst (.int 1))) (.cons (.lst false .nil) (.cons (.tup .nil) (.cons (.dnew false) (.cons (.cst (.str "a b")) .nil)))))))))))))))))) (.seq (.ret (.idx (.bin false .add (.var 2) (.lst false (.cons (.bin false .add (.var 1) (.slc false (.cst (.str "pq")) .nil (.bin false .mod (.bin false .fdiv (.var 0) (.cst (.int 1152))) (.cst (.int 3))))) (.cons (.bin false .add (.slc false (.cst (.str "gh")) .nil (.bin false .add (.cst (.int 1)) (.bin false .mod (.bin false .fdiv (.var 0) (.cst (.int 1152))) (.cst (.int 2))))) (.var 1)) .nil)))) (.bin false .mod (.var 0) (.cst (.int 18))))) .nil)))
theorem z20 : FnScope N20 P20 (defScope st20) := ⟨rfl, rfl, rfl, by decide +kernel, rfl, by decide +kernel, by decide +kernel⟩
theorem k20 : (cks Gm N20 20 c20).b ⟨defScope st20, none⟩ (defBody st20) = true := by decide +kernel
/-! 21: _law_changed -/
abbrev st21 : Stmt := topS 40
def N21 : List Str := ["_law_row", "_law_number", "_law_way", "_law_at"]
def P21 : List Str := ["_law_row", "_law_number"]
def c21 : CS :=
  (.seq (.asg (.tnm 2) (.bin false .mod (.var 1) (.cst (.int 7)))) (.seq (.iff (.cmp .Eq (.var 2) (.cst (.int 0))) (.seq (.ret (.idx (.lst false (.cons (.slc false (.var 0) .nil (.neg (.cst (.int 1)))) (.cons (.bin false .add (.var 0) (.tup (.cons (.cst (.int 0)) .nil))) (.cons (.blt .list false (.cons (.var 0) .nil)) (.cons (.cst .none) .nil))))) (.bin false .mod (.bin false .fdiv (.var 1) (.cst (.int 7))) (.cst (.int 4))))) .nil) .nil) (.seq (.asg (.tnm 3) (.bin false .mod (.bin false .fdiv (.var 1) (.cst (.int 7))) (.blt .len false (.cons (.var 0) .nil)))) (.seq (.ret (.bin false .add (.bin false .add (.slc false (.var 0) .nil (.var 3)) (.tup (.cons (.call 20 (.cons (.bin false .fdiv (.var 1) (.cst (.int 28))) .nil)) .nil))) (.slc false (.var 0) (.bin false .add (.var 3) (.cst (.int 1))) .nil))) .nil))))
theorem z21 : FnScope N21 P21 (defScope st21) := ⟨rfl, rfl, rfl, by decide +kernel, rfl, by decide +kernel, by decide +kernel⟩
theorem k21 : (cks Gm N21 21 c21).b ⟨defScope st21, none⟩ (defBody st21) = true := by decide +kernel
/-! 22: _law_bent -/
abbrev st22 : Stmt := topS 41
def N22 : List Str := ["_law_rows", "_law_number", "_law_more", "_law_way", "_law_at"]
def P22 : List Str := ["_law_rows", "_law_number", "_law_more"]
def c22 : CS :=
  (.seq (.asg (.tnm 3) (.bin false .mod (.var 1) (.cst (.int 5)))) (.seq (.iff (.cmp .Eq (.var 3) (.cst (.int 0))) (.seq (.ret (.idx (.lst false (.cons (.blt .tuple false (.cons (.var 0) .nil)) (.cons (.cst .none) (.cons (.bin false .add (.var 0) (.var 2)) (.cons (.bin false .add (.var 0) (.slc false (.var 0) .nil (.cst (.int 1)))) .nil))))) (.bin false .mod (.bin false .fdiv (.var 1) (.cst (.int 5))) (.cst (.int 4))))) .nil) .nil) (.seq (.iff (.cmp .Eq (.var 0) (.lst false .nil)) (.seq (.ret (.bin false .add (.var 0) (.slc false (.var 2) .nil (.cst (.int 1))))) .nil) .nil) (.seq (.asg (.tnm 4) (.bin false .mod (.bin false .fdiv (.var 1) (.cst (.int 5))) (.blt .len false (.cons (.var 0) .nil)))) (.seq (.iff (.cmp .Eq (.var 3) (.cst (.int 1))) (.seq (.ret (.bin false .add (.bin false .add (.slc false (.var 0) .nil (.var 4)) (.slc false (.var 0) (.var 4) (.bin false .add (.var 4) (.cst (.int 1))))) (.slc false (.var 0) (.var 4) .nil))) .nil) .nil) (.seq (.ret (.bin false .add (.bin false .add (.slc false (.var 0) .nil (.var 4)) (.lst false (.cons (.call 21 (.cons (.idx (.var 0) (.var 4)) (.cons (.bin false .fdiv (.var 1) (.cst (.int 60))) .nil))) .nil))) (.slc false (.var 0) (.bin false .add (.var 4) (.cst (.int 1))) .nil))) .nil))))))
theorem z22 : FnScope N22 P22 (defScope st22) := ⟨rfl, rfl, rfl, by decide +kernel, rfl, by decide +kernel, by decide +kernel⟩
theorem k22 : (cks Gm N22 22 c22).b ⟨defScope st22, none⟩ (defBody st22) = true := by decide +kernel
/-! 23: _law_refused -/
abbrev st23 : Stmt := topS 42
def N23 : List Str := ["_law_town_here", "_law_day_here", "_law_kind", "_law_caught", "_law_told", "error", "_law_others", "_law_own"]
def P23 : List Str := ["_law_town_here", "_law_day_here", "_law_kind"]
def c23 : CS :=
  (.seq (.asg (.tnm 3) (.cst .none)) (.seq (.asg (.tnm 4) (.cst .none)) (.seq (.tca 5 3 "RingError" ["BadTown", "BadDay"] (.tnm 4) (.ife (.cmp .Eq (.var 2) (.cst (.int 0))) (.call 4 (.cons (.var 0) .nil)) (.call 7 (.cons (.var 0) (.cons (.var 1) .nil))))) (.seq (.iff (.cmp .Is (.var 3) (.cst .none)) (.seq (.ret (.ife (.cmp .Is (.var 4) (.cst .none)) (.cst (.bool false)) (.cst (.str "told")))) .nil) .nil) (.seq (.asg (.tnm 6) (.lst true (.cons (.isc (.var 3) "BadDeed" ["BadTown", "BadDay"] []) (.cons (.isc (.var 3) "NoDeed" ["BadTown", "BadDay"] []) (.cons (.isc (.var 3) "TooMany" ["BadTown", "BadDay"] []) .nil))))) (.seq (.asg (.tnm 6) (.bin true .add (.var 6) (.lst false (.cons (.isc (.var 3) "Twice" ["BadTown", "BadDay"] []) (.cons (.isc (.var 3) "NoNeighbour" ["BadTown", "BadDay"] []) (.cons (.isc (.var 3) "Both" ["BadTown", "BadDay"] []) .nil)))))) (.seq (.expr (.mth .append (.var 6) (.cons (.isc (.var 3) "OutOfBounds" ["BadTown", "BadDay"] []) .nil))) (.seq (.asg (.tnm 7) (.lst false (.cons (.isc (.var 3) "BadTown" ["BadTown", "BadDay"] ["BadTown"]) (.cons (.isc (.var 3) "BadDay" ["BadTown", "BadDay"] ["BadDay"]) .nil)))) (.seq (.iff (.or (.cons (.cmp .In (.cst (.bool true)) (.var 6)) (.cons (.nt (.isc (.var 3) "ValueError" ["BadTown", "BadDay"] ["BadTown", "BadDay"])) (.cons (.idx (.var 7) (.bin false .sub (.cst (.int 1)) (.var 2))) .nil)))) (.seq (.ret (.cst (.str "another"))) .nil) .nil) (.seq (.ret (.idx (.var 7) (.var 2))) .nil))))))))))
theorem z23 : FnScope N23 P23 (defScope st23) := ⟨rfl, rfl, rfl, by decide +kernel, rfl, by decide +kernel, by decide +kernel⟩
theorem k23 : (cks Gt N23 23 c23).b ⟨defScope st23, none⟩ (defBody st23) = true := by decide +kernel
/-! 24: _law_skills -/
abbrev st24 : Stmt := topS 43
def N24 : List Str := ["_law_day_here", "_law_found", "_law_one"]
def P24 : List Str := ["_law_day_here"]
def c24 : CS :=
  (.seq (.asg (.tnm 1) (.lst true .nil)) (.seq (.fr (.tnm 2) (.iseq (.bin false .add (.idx (.var 0) (.cst (.int 0))) (.idx (.var 0) (.cst (.int 1))))) (.seq (.iff (.cmp .NotIn (.idx (.var 2) (.cst (.int 1))) (.var 1)) (.seq (.expr (.mth .append (.var 1) (.cons (.idx (.var 2) (.cst (.int 1))) .nil))) .nil) .nil) .nil)) (.seq (.gfrz 1) (.seq (.ret (.var 1)) .nil))))
theorem z24 : FnScope N24 P24 (defScope st24) := ⟨rfl, rfl, rfl, by decide +kernel, rfl, by decide +kernel, by decide +kernel⟩
theorem k24 : (cks Gm N24 24 c24).b ⟨defScope st24, none⟩ (defBody st24) = true := by decide +kernel
/-! 25: _law_days -/
abbrev st25 : Stmt := topS 44
def N25 : List Str := ["_law_town_here", "_law_day_here", "_law_number", "_law_found", "_law_told", "_law_at", "_law_j", "_law_one"]
def P25 : List Str := ["_law_town_here", "_law_day_here", "_law_number"]
def c25 : CS :=
  (.seq (.asg (.tnm 3) (.lst true (.cons (.tup (.cons (.bin false .add (.idx (.var 1) (.cst (.int 0))) (.lc false [("_law_one", 7)] (.tnm 7) (.iseq (.slc false (.idx (.var 1) (.cst (.int 1))) .nil (.cst (.int 1)))) .nil (.bin false .add (.slc false (.var 7) .nil (.cst (.int 2))) (.tup (.cons (.cst (.int 1)) .nil))))) (.cons (.idx (.var 1) (.cst (.int 1))) .nil))) .nil))) (.seq (.expr (.mth .append (.var 3) (.cons (.tup (.cons (.idx (.var 1) (.cst (.int 0))) (.cons (.bin false .add (.idx (.var 1) (.cst (.int 1))) (.lc false [("_law_one", 7)] (.tnm 7) (.iseq (.slc false (.idx (.var 1) (.cst (.int 0))) (.neg (.cst (.int 1))) .nil)) .nil (.bin false .add (.slc false (.var 7) .nil (.cst (.int 2))) (.tup (.cons (.cst (.int 2)) .nil))))) .nil))) .nil))) (.seq (.iff (.cmp .Eq (.blt .len false (.cons (.var 0) .nil)) (.cst (.int 12))) (.seq (.asg (.tnm 4) (.lc false [("_law_j", 6)] (.tnm 6) (.irng1 (.bin false .add (.cst (.int 40)) (.bin false .mod (.var 2) (.cst (.int 2))))) .nil (.tup (.cons (.idx (.idx (.var 0) (.bin false .mod (.var 6) (.cst (.int 12)))) (.cst (.int 0))) (.cons (.bin false .add (.cst (.str "z")) (.idx (.cst (.str "abcd")) (.bin false .fdiv (.var 6) (.cst (.int 12))))) (.cons (.bin false .add (.cst (.int 1)) (.var 6)) .nil)))))) (.seq (.asg (.tnm 5) (.bin false .mod (.bin false .fdiv (.var 2) (.cst (.int 2))) (.bin false .add (.blt .len false (.cons (.var 4) .nil)) (.cst (.int 1))))) (.seq (.expr (.mth .append (.var 3) (.cons (.tup (.cons (.slc false (.var 4) .nil (.var 5)) (.cons (.slc false (.var 4) (.var 5) .nil) .nil))) .nil))) .nil))) .nil) (.seq (.gfrz 3) (.seq (.ret (.var 3)) .nil)))))
theorem z25 : FnScope N25 P25 (defScope st25) := ⟨rfl, rfl, rfl, by decide +kernel, rfl, by decide +kernel, by decide +kernel⟩
theorem k25 : (cks Gm N25 25 c25).b ⟨defScope st25, none⟩ (defBody st25) = true := by decide +kernel
/-! 26: _law_words -/
abbrev st26 : Stmt := topS 45
def N26 : List Str := ["_law_number", "_law_thing", "_law_told", "_law_one"]
def P26 : List Str := ["_law_number"]
def c26 : CS :=
  (.seq (.fr (.tnm 1) (.iseq (.tup (.cons (.call 20 (.cons (.var 0) .nil)) (.cons (.call 10 (.cons (.bin false .fdiv (.var 0) (.cst (.int 16))) (.cons (.bin false .mod (.bin false .fdiv (.var 0) (.cst (.int 5))) (.cst (.int 13))) .nil))) (.cons (.call 20 (.cons (.bin false .fdiv (.var 0) (.cst (.int 16))) .nil)) .nil))))) (.seq (.asg (.tnm 2) (.lst false (.cons (.call 0 (.cons (.var 1) .nil)) (.cons (.call 1 (.cons (.var 1) (.cons (.neg (.cst (.int 1))) (.cons (.bin false .pow (.cst (.int 10)) (.cst (.int 30))) .nil)))) .nil)))) (.seq (.iff (.cmp .In (.cst (.bool false)) (.lc false [("_law_one", 3)] (.tnm 3) (.iseq (.var 2)) .nil (.isi (.var 3) .bl))) (.seq (.ret (.cst (.bool false))) .nil) .nil) (.seq (.iff (.cmp .NotEq (.var 2) (.lst false (.cons (.call 15 (.cons (.var 1) .nil)) (.cons (.call 14 (.cons (.var 1) (.cons (.neg (.cst (.int 1))) (.cons (.bin false .pow (.cst (.int 10)) (.cst (.int 30))) .nil)))) .nil)))) (.seq (.ret (.cst (.bool false))) .nil) .nil) .nil)))) (.seq (.ret (.cst (.bool true))) .nil))
theorem z26 : FnScope N26 P26 (defScope st26) := ⟨rfl, rfl, rfl, by decide +kernel, rfl, by decide +kernel, by decide +kernel⟩
theorem k26 : (cks Gm N26 26 c26).b ⟨defScope st26, none⟩ (defBody st26) = true := by decide +kernel
/-! 27: law -/
abbrev st27 : Stmt := topS 46
def N27 : List Str := ["_law_script", "_law_k", "_law_number", "_law_town_here", "_law_day_here", "_law_more", "_law_odd_here", "_law_side", "_law_name_here", "_law_many", "_law_told", "_law_j"]
def P27 : List Str := ["_law_script"]
def c27 : CS :=
  (.seq (.fr (.tnm 1) (.irng1 (.blt .max2 false (.cons (.cst (.int 1)) (.cons (.blt .len false (.cons (.var 0) .nil)) .nil)))) (.seq (.asg (.tnm 2) (.call 8 (.cons (.var 0) (.cons (.var 1) .nil)))) (.seq (.asg (.tnm 3) (.call 12 (.cons (.var 2) (.cons (.idx (.lst false (.cons (.cst (.int 0)) (.cons (.cst (.int 1)) (.cons (.cst (.int 2)) (.cons (.cst (.int 3)) (.cons (.cst (.int 5)) (.cons (.cst (.int 12)) .nil))))))) (.bin false .mod (.var 2) (.cst (.int 6)))) .nil)))) (.seq (.asg (.tnm 4) (.call 13 (.cons (.var 3) (.cons (.var 2) (.cons (.idx (.lst false (.cons (.cst (.int 0)) (.cons (.cst (.int 1)) (.cons (.cst (.int 4)) (.cons (.cst (.int 9)) (.cons (.cst (.int 20)) .nil)))))) (.bin false .mod (.bin false .fdiv (.var 2) (.cst (.int 6))) (.cst (.int 5)))) .nil))))) (.seq (.iff (.or (.cons (.cmp .IsNot (.call 23 (.cons (.var 3) (.cons (.var 4) (.cons (.cst (.int 0)) .nil)))) (.cst (.bool false))) (.cons (.cmp .IsNot (.call 23 (.cons (.var 3) (.cons (.var 4) (.cons (.cst (.int 1)) .nil)))) (.cst (.bool false))) .nil))) (.seq (.ret (.cst (.bool false))) .nil) .nil) (.seq (.asg (.tnm 5) (.lc false [("_law_j", 11)] (.tnm 11) (.irng1 (.cst (.int 13))) .nil (.tup (.cons (.call 10 (.cons (.bin false .fdiv (.var 2) (.cst (.int 7))) (.cons (.var 11) .nil))) (.cons (.cst (.int 0)) (.cons (.cst (.int 0)) (.cons (.cst (.int 0)) .nil))))))) (.seq (.asg (.tnm 6) (.call 22 (.cons (.var 3) (.cons (.call 9 (.cons (.var 2) (.cons (.cst (.int 1)) .nil))) (.cons (.var 5) .nil))))) (.seq (.iff (.cmp .NotEq (.call 23 (.cons (.var 6) (.cons (.var 4) (.cons (.cst (.int 0)) .nil)))) (.nt (.call 17 (.cons (.var 6) .nil)))) (.seq (.ret (.cst (.bool false))) .nil) .nil) (.seq (.asg (.tnm 7) (.bin false .mod (.bin false .fdiv (.var 2) (.cst (.int 30))) (.cst (.int 2)))) (.seq (.asg (.tnm 8) (.idx (.idx (.bin false .add (.var 3) (.lst false (.cons (.tup (.cons (.cst (.str "zz")) (.cons (.cst (.int 0)) (.cons (.cst (.int 0)) (.cons (.cst (.int 0)) .nil))))) .nil))) (.cst (.int 0))) (.cst (.int 0)))) (.seq (.asg (.tnm 9) (.idx (.lst false (.cons (.cst (.int 7)) (.cons (.cst (.int 9)) (.cons (.cst (.int 12)) (.cons (.cst (.int 42)) .nil))))) (.bin false .mod (.var 2) (.cst (.int 4))))) (.seq (.asg (.tnm 5) (.lc false [("_law_j", 11)] (.tnm 11) (.irng1 (.var 9)) .nil (.tup (.cons (.var 8) (.cons (.bin false .add (.cst (.str "z")) (.bin false .mul (.idx (.cst (.str "abcdefghijklmnopqrstuvw")) (.bin false .mod (.var 11) (.cst (.int 23)))) (.bin false .add (.cst (.int 1)) (.bin false .fdiv (.var 11) (.cst (.int 23)))))) (.cons (.cst (.int 1)) .nil)))))) (.seq (.asg (.tnm 6) (.blt .list true (.cons (.var 4) .nil))) (.seq (.asg (.tsub (.var 6) (.var 7)) (.call 22 (.cons (.idx (.var 4) (.var 7)) (.cons (.call 9 (.cons (.var 2) (.cons (.cst (.int 2)) .nil))) (.cons (.var 5) .nil))))) (.seq (.gfrz 6) (.seq (.asg (.tnm 6) (.idx (.lst false (.cons (.blt .tuple false (.cons (.var 6) .nil)) (.cons (.var 6) (.cons (.blt .tuple false (.cons (.bin false .add (.var 6) (.lst false (.cons (.lst false .nil) .nil))) .nil)) .nil)))) (.idx (.lst false (.cons (.cst (.int 0)) (.cons (.cst (.int 0)) (.cons (.cst (.int 0)) (.cons (.cst (.int 0)) (.cons (.cst (.int 1)) (.cons (.cst (.int 2)) .nil))))))) (.bin false .mod (.bin false .fdiv (.var 2) (.cst (.int 60))) (.cst (.int 6)))))) (.seq (.iff (.cmp .NotEq (.call 23 (.cons (.var 3) (.cons (.var 6) (.cons (.cst (.int 1)) .nil)))) (.nt (.call 19 (.cons (.var 3) (.cons (.var 6) .nil))))) (.seq (.ret (.cst (.bool false))) .nil) .nil) (.seq (.fr (.tnm 6) (.iseq (.call 25 (.cons (.var 3) (.cons (.var 4) (.cons (.call 9 (.cons (.var 2) (.cons (.cst (.int 4)) .nil))) .nil))))) (.seq (.iff (.cmp .NotEq (.call 23 (.cons (.var 3) (.cons (.var 6) (.cons (.cst (.int 1)) .nil)))) (.nt (.call 19 (.cons (.var 3) (.cons (.var 6) .nil))))) (.seq (.ret (.cst (.bool false))) .nil) .nil) .nil)) (.seq (.asg (.tnm 10) (.call 6 (.cons (.var 4) .nil))) (.seq (.iff (.or (.cons (.nt (.isi (.var 10) .lst)) (.cons (.cmp .NotEq (.var 10) (.call 24 (.cons (.var 4) .nil))) (.cons (.nt (.call 26 (.cons (.call 9 (.cons (.var 2) (.cons (.cst (.int 3)) .nil))) .nil))) .nil)))) (.seq (.ret (.cst (.bool false))) .nil) .nil) .nil)))))))))))))))))))) (.seq (.ret (.cst (.bool true))) .nil))
theorem z27 : FnScope N27 P27 (defScope st27) := ⟨rfl, rfl, rfl, by decide +kernel, rfl, by decide +kernel, by decide +kernel⟩
theorem k27 : (cks Gm N27 27 c27).b ⟨defScope st27, none⟩ (defBody st27) = true := by decide +kernel
end K01

set_option Elab.async false
set_option linter.all false
set_option maxRecDepth 100000
set_option maxHeartbeats 4000000
/-! K01b: odd things, numbers, names, neighbours, towns. -/
namespace K01
open PySem PySem.Spec PyProof.Rows L2 MP NM DK LF LG LH EX EY ST LK
local macro_rules
  | `(tactic| contradiction) => `(tactic| first | with_reducible refine d_in ?_ | with_reducible refine s_nil ?_ | with_reducible refine s_seq ?_ | with_reducible refine s_asg ?_ | with_reducible refine s_par ?_ | with_reducible refine s_expr ?_ | with_reducible refine s_ret ?_ | with_reducible refine s_retN ?_ | with_reducible refine s_iff ?_ | with_reducible refine s_fr ?_ | with_reducible refine s_cont ?_ | with_reducible refine s_brk ?_ | with_reducible refine s_pass ?_ | with_reducible refine s_augS ?_ | with_reducible refine e_int ?_ | with_reducible refine e_str ?_ | with_reducible refine e_bool ?_ | with_reducible refine e_none ?_ | with_reducible refine e_bin ?_ | with_reducible refine e_neg ?_ | with_reducible refine e_nt ?_ | with_reducible refine e_cmp ?_ | with_reducible refine e_chain ?_ | with_reducible refine e_an ?_ | with_reducible refine e_or ?_ | with_reducible refine an_1 ?_ | with_reducible refine an_2 ?_ | with_reducible refine or_1 ?_ | with_reducible refine or_2 ?_ | with_reducible refine e_ife ?_ | with_reducible refine e_call ?_ | with_reducible refine e_blt ?_ | with_reducible refine e_mth ?_ | with_reducible refine e_idx ?_ | with_reducible refine e_slc ?_ | with_reducible refine e_rev ?_ | with_reducible refine e_tup ?_ | with_reducible refine e_lst ?_ | with_reducible refine e_dnew ?_ | with_reducible refine e_dct ?_ | with_reducible refine e_isi ?_ | with_reducible refine e_lrg ?_ | with_reducible refine e_lzip ?_ | with_reducible refine e_stp ?_ | with_reducible refine e_sset ?_ | with_reducible refine es_n ?_ | with_reducible refine es_c ?_ | with_reducible refine o_nil ?_ | with_reducible refine o_var ?_ | with_reducible refine o_cst ?_ | with_reducible refine o_bin ?_ | with_reducible refine o_neg ?_ | with_reducible refine o_blt ?_ | with_reducible refine o_call ?_ | with_reducible refine ik ?_ | with_reducible refine ng ?_ | with_reducible refine tq_bl ?_ | with_reducible refine tq_int ?_ | with_reducible refine tq_non ?_ | with_reducible refine tq_lst ?_ | with_reducible refine tq_tup ?_ | with_reducible refine t_var ?_ | with_reducible refine t_call ?_ | with_reducible refine t_blt ?_ | with_reducible refine t_mth ?_ | with_reducible refine t_idx ?_ | with_reducible refine t_isi ?_ | with_reducible refine t_cst ?_ | with_reducible refine t_nt ?_ | with_reducible refine t_cmp ?_ | with_reducible refine t_chain ?_ | with_reducible refine t_an ?_ | with_reducible refine t_or ?_ | with_reducible refine ant_1 ?_ | with_reducible refine ant_2 ?_ | with_reducible refine ort_1 ?_ | with_reducible refine ort_2 ?_ | with_reducible refine tr_bl ?_ | with_reducible refine tr_int ?_ | with_reducible refine tr_lst ?_ | with_reducible refine tr_non ?_ | with_reducible refine c_nil ?_ | with_reducible refine c_one ?_ | with_reducible refine g_sub ?_ | with_reducible refine gs_n ?_ | with_reducible refine gs_c ?_ | with_reducible refine i_seq ?_ | with_reducible refine i_rng1 ?_ | with_reducible refine i_rng2 ?_ | with_reducible refine i_rng3 ?_ | with_reducible refine i_zip ?_ | with_reducible refine i_enm ?_ | with_reducible refine b_add ?_ | with_reducible refine b_sub ?_ | with_reducible refine c_lt ?_ | with_reducible refine c_le ?_ | with_reducible refine c_gt ?_ | with_reducible refine c_ge ?_ | with_reducible refine mk_f ?_ | with_reducible refine ref_and ?_ | with_reducible refine u_set ?_ | with_reducible refine eq_i ?_ | with_reducible refine ne_i ?_ | with_reducible refine eq_b ?_ | with_reducible refine ne_b ?_ | with_reducible refine is_b ?_ | with_reducible refine isn_b ?_ | with_reducible refine is_n ?_ | with_reducible refine isn_n ?_ | with_reducible refine e_v0 ?_ | with_reducible refine g_v0 ?_ | with_reducible refine s_u0 ?_ | with_reducible refine e_v1 ?_ | with_reducible refine g_v1 ?_ | with_reducible refine s_u1 ?_ | with_reducible refine e_v2 ?_ | with_reducible refine g_v2 ?_ | with_reducible refine s_u2 ?_ | with_reducible refine e_v3 ?_ | with_reducible refine g_v3 ?_ | with_reducible refine s_u3 ?_ | with_reducible refine e_v4 ?_ | with_reducible refine g_v4 ?_ | with_reducible refine s_u4 ?_ | with_reducible refine e_v5 ?_ | with_reducible refine g_v5 ?_ | with_reducible refine s_u5 ?_ | with_reducible refine e_v6 ?_ | with_reducible refine g_v6 ?_ | with_reducible refine s_u6 ?_ | with_reducible refine e_v7 ?_ | with_reducible refine g_v7 ?_ | with_reducible refine s_u7 ?_ | with_reducible refine e_v8 ?_ | with_reducible refine g_v8 ?_ | with_reducible refine s_u8 ?_ | with_reducible refine e_v9 ?_ | with_reducible refine g_v9 ?_ | with_reducible refine s_u9 ?_ | with_reducible refine e_v10 ?_ | with_reducible refine g_v10 ?_ | with_reducible refine s_u10 ?_ | with_reducible refine e_v11 ?_ | with_reducible refine g_v11 ?_ | with_reducible refine s_u11 ?_ | with_reducible refine e_v12 ?_ | with_reducible refine g_v12 ?_ | with_reducible refine s_u12 ?_ | with_reducible refine e_v13 ?_ | with_reducible refine g_v13 ?_ | with_reducible refine s_u13 ?_ | with_reducible refine e_v14 ?_ | with_reducible refine g_v14 ?_ | with_reducible refine s_u14 ?_ | with_reducible refine e_v15 ?_ | with_reducible refine g_v15 ?_ | with_reducible refine s_u15 ?_ | with_reducible refine e_v16 ?_ | with_reducible refine g_v16 ?_ | with_reducible refine s_u16 ?_ | with_reducible refine e_v17 ?_ | with_reducible refine g_v17 ?_ | with_reducible refine s_u17 ?_ | with_reducible refine e_v18 ?_ | with_reducible refine g_v18 ?_ | with_reducible refine s_u18 ?_ | with_reducible refine e_v19 ?_ | with_reducible refine g_v19 ?_ | with_reducible refine s_u19 ?_ | ((with_reducible refine e_lc' (ρ' := ?rr) ?hw ?_); (case hw => (dsimp only [wipeW, List.map, List.set]; exact rfl))) | ((with_reducible refine g_tup ?hl ?_); (case hl => exact rfl)) | with_reducible refine b_mod (by first | decide | omega) ?_ | ((with_reducible refine b_pow (pow_ok (by decide) (by decide) (by decide)) ?_); simp only [Int.reduceToNat, Int.reducePow]) | with_reducible refine le_and (by simp only [List.length_cons, List.length_nil]; decide) ?_ | with_reducible refine l_intB ?_ | with_reducible refine l_intI ?_ | with_reducible refine sl_f ?_ | (refine l_len (by exact rfl) (q := ?_); skip) | (refine l_list (by exact rfl) ?_; skip) | (refine ix_t (by exact rfl) ?_; skip))

/-! ### comprehensions over values as they are -/
theorem lc_mi {src : Sto → Prop} {g : W → MP.Env → Sto → (MP.Env → Sto → Prop) → Prop} {e : WE} {ρ : MP.Env} {S : Sto} {Q : List W → Sto → Prop} {items : List W} {Φ : Nat → MP.Spec} (f : W → W) (hs : src S) (hl : items.length ≤ sizeLine)
    (step : ∀ x, x ∈ items → ∀ (K : WK), K (f x) S → g x ρ S fun ρ1 S1 => e ρ1 S1 K XN)
    (hd : Q (items.map f) S) : wpLc src g (wp Φ .nil).c (fun ρ1 S2 Q1 => e ρ1 S2 Q1 XN) ρ items [] S Q := by
  have := lc_mp (Φ := Φ) (src := src) (g := g) (e := e) (ρ := ρ) (S := S) (Q := Q) (enc := fun w : W => w) (xs := items) f hs hl step hd
  rwa [List.map_id'] at this
/-! ### things -/
/-- a thing that may stand in a row -/
inductive Od (S : Sto) : W → Prop
  | non : Od S .non
  | bl (b : Bool) : Od S (.bl b)
  | int (i : Int) : Od S (.int i)
  | str (x : Str) : (PyData.str x).canLay0 = true → x.length ≤ 1000 → Od S (.str x)
  | nil : Od S (.lst [])
  | unit : Od S (.tup [])
  | dic (p : Addr) : S p = some (.dk []) → Od S (.ref p)
/-- a row -/
inductive Rw (S : Sto) : W → Prop
  | tup (ws : List W) : (∀ w ∈ ws, Od S w) → Rw S (.tup ws)
  | lst (ws : List W) : (∀ w ∈ ws, Od S w) → Rw S (.lst ws)
  | non : Rw S .non
/-- rows -/
inductive Ls (S : Sto) : W → Prop
  | tup (ws : List W) : (∀ w ∈ ws, Rw S w) → ws.length ≤ 100 → Ls S (.tup ws)
  | lst (ws : List W) : (∀ w ∈ ws, Rw S w) → ws.length ≤ 100 → Ls S (.lst ws)
  | non : Ls S .non
/-- two of them, or so -/
inductive Dy (S : Sto) : W → Prop
  | tup (ws : List W) : (∀ w ∈ ws, Ls S w) → Dy S (.tup ws)
  | lst (ws : List W) : (∀ w ∈ ws, Ls S w) → Dy S (.lst ws)
section
variable {S S' : Sto} {w : W}
theorem Od.up (f : Fewer S S') (h : Od S w) : Od S' w := by
  cases h with
  | dic p h => exact .dic p (f p _ h)
  | str x a b => exact .str x a b
  | non => exact .non
  | bl b => exact .bl b
  | int i => exact .int i
  | nil => exact .nil
  | unit => exact .unit
theorem Rw.up (f : Fewer S S') (h : Rw S w) : Rw S' w := by
  cases h with
  | tup ws h => exact .tup ws fun w hw => (h w hw).up f
  | lst ws h => exact .lst ws fun w hw => (h w hw).up f
  | non => exact .non
theorem Ls.up (f : Fewer S S') (h : Ls S w) : Ls S' w := by
  cases h with
  | tup ws h l => exact .tup ws (fun w hw => (h w hw).up f) l
  | lst ws h l => exact .lst ws (fun w hw => (h w hw).up f) l
  | non => exact .non
theorem Od.knd (h : Od S w) : ∃ k, kndW S w = some k := by
  cases h with
  | dic p h => exact ⟨.dct, by show (S p).bind kndO = _; rw [h]; rfl⟩
  | _ => exact ⟨_, rfl⟩
theorem Od.line (h : Od S w) : ∀ x, w = .str x → x.length ≤ sizeLine := by
  rintro x rfl
  cases h with
  | str x a b => exact le_line (by omega)
theorem Rw.knd (h : Rw S w) : ∃ k, kndW S w = some k := by cases h <;> exact ⟨_, rfl⟩
theorem Ls.knd (h : Ls S w) : ∃ k, kndW S w = some k := by cases h <;> exact ⟨_, rfl⟩
theorem Dy.knd (h : Dy S w) : ∃ k, kndW S w = some k := by cases h <;> exact ⟨_, rfl⟩
theorem sub_int {k : Knd} : subK k .int = decide (k = .int ∨ k = .bl) := by cases k <;> rfl
theorem sub_bl {k : Knd} : subK k .bl = decide (k = .bl) := by cases k <;> rfl
theorem sub_lst {k : Knd} : subK k .lst = decide (k = .lst) := by cases k <;> rfl
theorem knd_int (h : kndW S w = some .int) : ∃ i, w = .int i := by
  cases w with
  | int i => exact ⟨i, rfl⟩
  | ref a =>
    have h : (S a).bind kndO = some .int := h
    cases e : S a with
    | none => rw [e] at h; cases h
    | some o =>
      rw [e] at h
      cases o with
      | lk o od u => cases o <;> cases h
      | _ => cases h
  | _ => cases h
theorem knd_bl (h : kndW S w = some .bl) : ∃ i, w = .bl i := by
  cases w with
  | bl i => exact ⟨i, rfl⟩
  | ref a =>
    have h : (S a).bind kndO = some .bl := h
    cases e : S a with
    | none => rw [e] at h; cases h
    | some o =>
      rw [e] at h
      cases o with
      | lk o od u => cases o <;> cases h
      | _ => cases h
  | _ => cases h
end
/-! ### numbers -/
def wholeB (lo hi : Int) : W → Bool
  | .int i => decide (lo ≤ i ∧ i ≤ hi)
  | _ => false
def spWhole : MP.Spec := fun ws S Q _ => ∃ w k lo hi, ws = [w, .int lo, .int hi] ∧ kndW S w = some k ∧ Q (.bl (wholeB lo hi w)) S
theorem ok_whole {Φ : Nat → MP.Spec} {ws : List W} {S : Sto} {Q : WK} {X X0 : XC} (h : spWhole ws S Q X) : wps Φ c1 (startW N1 ws) S (dEnds Q X0) := by
  obtain ⟨w, k, lo, hi, rfl, hk, q⟩ := h
  unfold c1
  show wps Φ _ [some w, some (.int lo), some (.int hi)] S (dEnds Q X0)
  repeat' contradiction
  refine ⟨k, hk, ?_⟩
  repeat' contradiction
  by_cases c1 : k = .int
  · subst c1
    obtain ⟨i, rfl⟩ := knd_int hk
    refine iteT' rfl ?_
    repeat' contradiction
    refine ⟨_, rfl, ?_⟩
    repeat' contradiction
    refine iteT' rfl ?_
    repeat' contradiction
    refine LD.ite_d (fun c => ?_) (fun c => ?_)
    · repeat' contradiction
      refine d_same ?_
      have : wholeB lo hi (.int i) = decide (i ≤ hi) := by
        unfold wholeB
        rw [Bool.eq_iff_iff, decide_eq_true_iff, decide_eq_true_iff]
        exact ⟨fun h => h.2, fun h => ⟨c, h⟩⟩
      rw [← this]; exact q
    · refine d_same ?_
      have : wholeB lo hi (.int i) = false := decide_eq_false fun h => c h.1
      rw [← this]; exact q
  · by_cases c2 : k = .bl
    · subst c2
      obtain ⟨i, rfl⟩ := knd_bl hk
      refine iteT' rfl ?_
      repeat' contradiction
      refine ⟨_, rfl, ?_⟩
      repeat' contradiction
      refine iteF' rfl ?_
      exact d_same q
    · have e : subK k .int = false := by
        rw [sub_int, decide_eq_false]
        rintro (h | h)
        · exact c1 h
        · exact c2 h
      refine iteF' e ?_
      refine d_same ?_
      have : wholeB lo hi w = false := by
        cases w with
        | int i => cases hk; exact absurd rfl c1
        | _ => rfl
      rw [e, ← this]; exact q
theorem ok_number {Φ : Nat → MP.Spec} {ws : List W} {S : Sto} {Q : WK} {X X0 : XC} (h : spWhole ws S Q X) : wps Φ c14 (startW N14 ws) S (dEnds Q X0) := ok_whole h
/-! ### names -/
theorem notin_abc {c : Nat} {S : Sto} {Q : Bool → Prop} (q : Q (!low c)) : cmpW .NotIn (.str ⟨#[c]⟩) (.str "abcdefghijklmnopqrstuvwxyz") S Q := by
  show Q (!(!(Builtin.Str.occurrences ("abcdefghijklmnopqrstuvwxyz" : Str) ⟨#[c]⟩ 0 ("abcdefghijklmnopqrstuvwxyz" : Str).length 1).isEmpty))
  rw [StrLaws.found_one, abc_low]
  exact q
/-- a name, of texts with signs that there are -/
def spLName : MP.Spec := fun ws S Q _ => ∃ w k, ws = [w] ∧ kndW S w = some k ∧ (∀ x, w = .str x → x.length ≤ sizeLine ∧ (PyData.str x).canLay0 = true) ∧ Q (.bl (nameB w)) S
theorem can_one {x : Str} (h : (PyData.str x).canLay0 = true) {c : Nat} (hc : c ∈ x.cps.toList) : (PyData.str ⟨#[c]⟩).canLay0 = true := by
  have h : x.cps.all (· < 0x110000) = true := h
  rw [← Array.all_toList, List.all_eq_true] at h
  have := h c hc
  show (#[c] : Array Nat).all (· < 0x110000) = true
  simpa using this
theorem ok_lname {Φ : Nat → MP.Spec} {ws : List W} {S : Sto} {Q : WK} {X X0 : XC} (h : spLName ws S Q X) : wps Φ c15 (startW N15 ws) S (dEnds Q X0) := by
  obtain ⟨w, k, rfl, hk, hl, q⟩ := h
  unfold c15
  show wps Φ _ [some w, none] S (dEnds Q X0)
  repeat' contradiction
  refine ⟨k, hk, ?_⟩
  repeat' contradiction
  by_cases c : k = .str
  · subst c
    obtain ⟨x, rfl⟩ := knd_str hk
    refine iteF' rfl ?_
    repeat' contradiction
    refine l_lenS (hl x rfl).1 ?_
    repeat' contradiction
    refine LD.ite_d (fun c1 => ?_) (fun c1 => ?_)
    · repeat' contradiction
      refine ite_nd (fun c2 => ?_) (fun c2 => ?_)
      · repeat' contradiction
        refine d_same ?_
        have : nameB (.str x) = false := by
          rw [nameB_s, decide_eq_false (by omega)]; rfl
        rw [← this]; exact q
      · repeat' contradiction
        refine ⟨_, rfl, ?_⟩
        refine lc_fm (enc := fun c : Nat => W.str ⟨#[c]⟩) (xs := x.cps.toList) (fun c => !low c) (fun c => W.str ⟨#[c]⟩) rfl (by rw [← len_cps]; exact (hl x rfl).1) (fun c _ K K2 h1 h2 => ?_) ?_
        · repeat' contradiction
          refine notin_abc ?_
          cases e : low c with
          | true => exact iteF' rfl (h2 (by rw [e]; rfl))
          | false => refine iteT' rfl ?_; repeat' contradiction; exact h1 (by rw [e]; rfl)
        repeat' contradiction
        refine eq_p (n := 1) (m := 1) (pln_map fun c hc => .str 0 _ (can_one (hl x rfl).2 (List.mem_filter.mp hc).1)) (.lst 0 [] fun _ h => nomatch h) fun b hb => ?_
        refine d_same ?_
        have : nameB (.str x) = b := by
          rw [nameB_s, decide_eq_true (by omega), Bool.true_and, Bool.eq_iff_iff, hb, List.all_eq_true]
          constructor
          · intro h
            have : x.cps.toList.filter (fun c => !low c) = [] := List.filter_eq_nil_iff.mpr fun c hc => by rw [h c hc]; decide
            rw [this]; rfl
          · intro h c hc
            injection h with h
            have := List.filter_eq_nil_iff.mp (List.map_eq_nil_iff.mp h) c hc
            cases e : low c with
            | true => rfl
            | false => rw [e] at this; exact absurd rfl this
        rw [← this]; exact q
    · refine iteT' rfl ?_
      repeat' contradiction
      refine d_same ?_
      have : nameB (.str x) = false := by
        rw [nameB_s, decide_eq_false (by omega)]; rfl
      rw [← this]; exact q
  · refine iteT' (by rw [sub_str, decide_eq_false c]; rfl) ?_
    refine iteT' rfl ?_
    repeat' contradiction
    refine d_same ?_
    have : nameB w = false := by
      cases w with
      | str x => cases hk; exact absurd rfl c
      | _ => rfl
    rw [← this]; exact q
end K01

set_option Elab.async false
set_option linter.all false
set_option maxRecDepth 100000
set_option maxHeartbeats 4000000
/-! K01c: neighbours and towns, by the program and by the law. -/
namespace K01
open PySem PySem.Spec PyProof.Rows L2 MP NM DK LF LG LH EX EY ST LK
local macro_rules
  | `(tactic| contradiction) => `(tactic| first | with_reducible refine d_in ?_ | with_reducible refine s_nil ?_ | with_reducible refine s_seq ?_ | with_reducible refine s_asg ?_ | with_reducible refine s_par ?_ | with_reducible refine s_expr ?_ | with_reducible refine s_ret ?_ | with_reducible refine s_retN ?_ | with_reducible refine s_iff ?_ | with_reducible refine s_fr ?_ | with_reducible refine s_cont ?_ | with_reducible refine s_brk ?_ | with_reducible refine s_pass ?_ | with_reducible refine s_augS ?_ | with_reducible refine e_int ?_ | with_reducible refine e_str ?_ | with_reducible refine e_bool ?_ | with_reducible refine e_none ?_ | with_reducible refine e_bin ?_ | with_reducible refine e_neg ?_ | with_reducible refine e_nt ?_ | with_reducible refine e_cmp ?_ | with_reducible refine e_chain ?_ | with_reducible refine e_an ?_ | with_reducible refine e_or ?_ | with_reducible refine an_1 ?_ | with_reducible refine an_2 ?_ | with_reducible refine or_1 ?_ | with_reducible refine or_2 ?_ | with_reducible refine e_ife ?_ | with_reducible refine e_call ?_ | with_reducible refine e_blt ?_ | with_reducible refine e_mth ?_ | with_reducible refine e_idx ?_ | with_reducible refine e_slc ?_ | with_reducible refine e_rev ?_ | with_reducible refine e_tup ?_ | with_reducible refine e_lst ?_ | with_reducible refine e_dnew ?_ | with_reducible refine e_dct ?_ | with_reducible refine e_isi ?_ | with_reducible refine e_lrg ?_ | with_reducible refine e_lzip ?_ | with_reducible refine e_stp ?_ | with_reducible refine e_sset ?_ | with_reducible refine es_n ?_ | with_reducible refine es_c ?_ | with_reducible refine o_nil ?_ | with_reducible refine o_var ?_ | with_reducible refine o_cst ?_ | with_reducible refine o_bin ?_ | with_reducible refine o_neg ?_ | with_reducible refine o_blt ?_ | with_reducible refine o_call ?_ | with_reducible refine ik ?_ | with_reducible refine ng ?_ | with_reducible refine tq_bl ?_ | with_reducible refine tq_int ?_ | with_reducible refine tq_non ?_ | with_reducible refine tq_lst ?_ | with_reducible refine tq_tup ?_ | with_reducible refine t_var ?_ | with_reducible refine t_call ?_ | with_reducible refine t_blt ?_ | with_reducible refine t_mth ?_ | with_reducible refine t_idx ?_ | with_reducible refine t_isi ?_ | with_reducible refine t_cst ?_ | with_reducible refine t_nt ?_ | with_reducible refine t_cmp ?_ | with_reducible refine t_chain ?_ | with_reducible refine t_an ?_ | with_reducible refine t_or ?_ | with_reducible refine ant_1 ?_ | with_reducible refine ant_2 ?_ | with_reducible refine ort_1 ?_ | with_reducible refine ort_2 ?_ | with_reducible refine tr_bl ?_ | with_reducible refine tr_int ?_ | with_reducible refine tr_lst ?_ | with_reducible refine tr_non ?_ | with_reducible refine c_nil ?_ | with_reducible refine c_one ?_ | with_reducible refine g_sub ?_ | with_reducible refine gs_n ?_ | with_reducible refine gs_c ?_ | with_reducible refine i_seq ?_ | with_reducible refine i_rng1 ?_ | with_reducible refine i_rng2 ?_ | with_reducible refine i_rng3 ?_ | with_reducible refine i_zip ?_ | with_reducible refine i_enm ?_ | with_reducible refine b_add ?_ | with_reducible refine b_sub ?_ | with_reducible refine c_lt ?_ | with_reducible refine c_le ?_ | with_reducible refine c_gt ?_ | with_reducible refine c_ge ?_ | with_reducible refine mk_f ?_ | with_reducible refine ref_and ?_ | with_reducible refine u_set ?_ | with_reducible refine eq_i ?_ | with_reducible refine ne_i ?_ | with_reducible refine eq_b ?_ | with_reducible refine ne_b ?_ | with_reducible refine is_b ?_ | with_reducible refine isn_b ?_ | with_reducible refine is_n ?_ | with_reducible refine isn_n ?_ | with_reducible refine e_v0 ?_ | with_reducible refine g_v0 ?_ | with_reducible refine s_u0 ?_ | with_reducible refine e_v1 ?_ | with_reducible refine g_v1 ?_ | with_reducible refine s_u1 ?_ | with_reducible refine e_v2 ?_ | with_reducible refine g_v2 ?_ | with_reducible refine s_u2 ?_ | with_reducible refine e_v3 ?_ | with_reducible refine g_v3 ?_ | with_reducible refine s_u3 ?_ | with_reducible refine e_v4 ?_ | with_reducible refine g_v4 ?_ | with_reducible refine s_u4 ?_ | with_reducible refine e_v5 ?_ | with_reducible refine g_v5 ?_ | with_reducible refine s_u5 ?_ | with_reducible refine e_v6 ?_ | with_reducible refine g_v6 ?_ | with_reducible refine s_u6 ?_ | with_reducible refine e_v7 ?_ | with_reducible refine g_v7 ?_ | with_reducible refine s_u7 ?_ | with_reducible refine e_v8 ?_ | with_reducible refine g_v8 ?_ | with_reducible refine s_u8 ?_ | with_reducible refine e_v9 ?_ | with_reducible refine g_v9 ?_ | with_reducible refine s_u9 ?_ | with_reducible refine e_v10 ?_ | with_reducible refine g_v10 ?_ | with_reducible refine s_u10 ?_ | with_reducible refine e_v11 ?_ | with_reducible refine g_v11 ?_ | with_reducible refine s_u11 ?_ | with_reducible refine e_v12 ?_ | with_reducible refine g_v12 ?_ | with_reducible refine s_u12 ?_ | with_reducible refine e_v13 ?_ | with_reducible refine g_v13 ?_ | with_reducible refine s_u13 ?_ | with_reducible refine e_v14 ?_ | with_reducible refine g_v14 ?_ | with_reducible refine s_u14 ?_ | with_reducible refine e_v15 ?_ | with_reducible refine g_v15 ?_ | with_reducible refine s_u15 ?_ | with_reducible refine e_v16 ?_ | with_reducible refine g_v16 ?_ | with_reducible refine s_u16 ?_ | with_reducible refine e_v17 ?_ | with_reducible refine g_v17 ?_ | with_reducible refine s_u17 ?_ | with_reducible refine e_v18 ?_ | with_reducible refine g_v18 ?_ | with_reducible refine s_u18 ?_ | with_reducible refine e_v19 ?_ | with_reducible refine g_v19 ?_ | with_reducible refine s_u19 ?_ | ((with_reducible refine e_lc' (ρ' := ?rr) ?hw ?_); (case hw => (dsimp only [wipeW, List.map, List.set]; exact rfl))) | ((with_reducible refine g_tup ?hl ?_); (case hl => exact rfl)) | with_reducible refine b_mod (by first | decide | omega) ?_ | ((with_reducible refine b_pow (pow_ok (by decide) (by decide) (by decide)) ?_); simp only [Int.reduceToNat, Int.reducePow]) | with_reducible refine le_and (by simp only [List.length_cons, List.length_nil]; decide) ?_ | with_reducible refine l_intB ?_ | with_reducible refine l_intI ?_ | with_reducible refine sl_f ?_ | (refine l_len (by exact rfl) (q := ?_); skip) | (refine l_list (by exact rfl) ?_; skip) | (refine ix_t (by exact rfl) ?_; skip))

def leB : W → W → Bool
  | .int i, .int j => decide (i ≤ j)
  | _, _ => false
theorem whole_int {lo hi : Int} {w : W} (h : wholeB lo hi w = true) : ∃ i, w = .int i ∧ lo ≤ i ∧ i ≤ hi := by
  cases w with
  | int i =>
    have := of_decide_eq_true (show decide (lo ≤ i ∧ i ≤ hi) = true from h)
    exact ⟨i, rfl, this.1, this.2⟩
  | _ => cases h
abbrev whB (w : W) : Bool := wholeB (-(10 ^ 30)) (10 ^ 30) w
def neighB : W → Bool
  | .tup [a, b, c, d] => nameB a && (whB b && whB c && whB d) && (leB c b && leB b d)
  | _ => false
theorem row4 {w : W} (h : rowB w 4 = true) : ∃ a b c d, w = .tup [a, b, c, d] := by
  cases w with
  | tup us =>
    have := of_decide_eq_true (show decide ((us.length : Int) = 4) = true from h)
    obtain ⟨a, b, c, d, rfl⟩ := four (us := us) (by omega)
    exact ⟨a, b, c, d, rfl⟩
  | _ => cases h
theorem neigh_row {w : W} (h : rowB w 4 = false) : neighB w = false := by
  cases w with
  | tup us =>
    have := of_decide_eq_false (show decide ((us.length : Int) = 4) = false from h)
    unfold neighB
    split
    · rename_i e
      injection e with e
      rw [e] at this
      exact absurd rfl this
    · rfl
  | _ => rfl
def spNeigh : MP.Spec := fun ws S Q _ => ∃ w, ws = [w] ∧ Rw S w ∧ Q (.bl (neighB w)) S
theorem Rw.at4 {S : Sto} {a b c d : W} (h : Rw S (.tup [a, b, c, d])) : Od S a ∧ Od S b ∧ Od S c ∧ Od S d := by
  cases h with
  | tup ws h => exact ⟨h a (by simp), h b (by simp), h c (by simp), h d (by simp)⟩
theorem ok_neigh {Φ : Nat → MP.Spec} (h0 : Φ 0 = spIsName) (h1 : Φ 1 = spWhole) (h2 : Φ 2 = spIsRow) {ws : List W} {S : Sto} {Q : WK} {X X0 : XC} (h : spNeigh ws S Q X) : wps Φ c3 (startW N3 ws) S (dEnds Q X0) := by
  obtain ⟨w, rfl, hw, q⟩ := h
  unfold c3
  show wps Φ _ [some w, none] S (dEnds Q X0)
  obtain ⟨k, hk⟩ := hw.knd
  repeat' contradiction
  rw [h2]
  refine ⟨w, k, 4, rfl, hk, ?_⟩
  repeat' contradiction
  cases e : rowB w 4 with
  | false =>
    refine iteT' rfl ?_
    refine iteT' rfl ?_
    repeat' contradiction
    refine d_same ?_
    rw [neigh_row e] at q
    exact q
  | true =>
    obtain ⟨a, b, c, d, rfl⟩ := row4 e
    obtain ⟨oa, ob, oc, od⟩ := hw.at4
    refine iteF' rfl ?_
    repeat' contradiction
    rw [h0]
    obtain ⟨ka, ha⟩ := oa.knd
    refine ⟨a, ka, rfl, ha, oa.line, ?_⟩
    repeat' contradiction
    cases e1 : nameB a with
    | false =>
      refine iteT' rfl ?_
      repeat' contradiction
      refine d_same ?_
      have : neighB (.tup [a, b, c, d]) = false := by show (nameB a && _ && _) = false; rw [e1]; rfl
      rw [← this]; exact q
    | true =>
      refine iteF' rfl ?_
      repeat' contradiction
      refine sl_t ?_
      refine ⟨[b, c, d], rfl, ?_⟩
      have num : ∀ (x : W) (K : WK), Od S x → K (.bl (whB x)) S → (wp Φ (CE.call 1 (.cons (.var 1) (.cons (.neg (.glb "MOST" (.int 1000000000000000000000000000000))) (.cons (.glb "MOST" (.int 1000000000000000000000000000000)) .nil))))).e [some (.tup [a, b, c, d]), some x] S K XN := fun x K ox hK => by
        obtain ⟨kx, hkx⟩ := ox.knd
        repeat' contradiction
        refine e_glbI ?_
        repeat' contradiction
        refine e_glbI ?_
        repeat' contradiction
        rw [h1]
        exact ⟨x, kx, _, _, rfl, hkx, hK⟩
      refine lc_mi (fun w => .bl (whB w)) rfl (le_line (by simp)) (fun x hx K hK => ?_) ?_
      · refine g_v1 ?_
        refine num x K ?_ hK
        simp only [List.mem_cons, List.not_mem_nil, or_false] at hx
        rcases hx with rfl | rfl | rfl
        · exact ob
        · exact oc
        · exact od
      repeat' contradiction
      refine l_all (ns := [whB b, whB c, whB d]) rfl ?_
      repeat' contradiction
      have e2 : [whB b, whB c, whB d].all id = (whB b && whB c && whB d) := by
        cases whB b <;> cases whB c <;> cases whB d <;> rfl
      rw [e2]
      cases e3 : (whB b && whB c && whB d) with
      | false =>
        refine iteT' rfl ?_
        repeat' contradiction
        refine d_same ?_
        have : neighB (.tup [a, b, c, d]) = false := by
          show (nameB a && (whB b && whB c && whB d) && _) = false
          rw [e3, Bool.and_false, Bool.false_and]
        rw [← this]; exact q
      | true =>
        refine iteF' rfl ?_
        rw [Bool.and_eq_true, Bool.and_eq_true] at e3
        obtain ⟨i, rfl, i0, i1⟩ := whole_int e3.1.1
        obtain ⟨j, rfl, j0, j1⟩ := whole_int e3.1.2
        obtain ⟨l, rfl, l0, l1⟩ := whole_int e3.2
        have all : neighB (.tup [a, .int i, .int j, .int l]) = (decide (j ≤ i) && decide (i ≤ l)) := by
          show (nameB a && (whB (.int i) && whB (.int j) && whB (.int l)) && (decide (j ≤ i) && decide (i ≤ l))) = _
          rw [e1, e3.1.1, e3.1.2, e3.2]; rfl
        rw [all] at q
        repeat' contradiction
        refine LD.ite_d (fun c => ?_) (fun c => ?_)
        · repeat' contradiction
          rw [decide_eq_true c, Bool.true_and] at q
          exact d_same q
        · rw [decide_eq_false c, Bool.false_and] at q
          exact d_same q
/-! ### towns -/
def hdS : W → Str
  | .tup (.str x :: _) => x
  | _ => Str.empty
def townB : W → Bool
  | .lst ws => decide (ws.length ≤ 12) && ws.all neighB && decide ((ws.map hdS).Nodup)
  | _ => false
theorem nd_len {α : Type} [DecidableEq α] : ∀ {l m : List α}, l.Nodup → (∀ k, k ∈ l ↔ k ∈ m) → l.length ≤ m.length ∧ (l.length = m.length ↔ m.Nodup) := by
  have sub : ∀ {l m : List α}, l.Nodup → (∀ x ∈ l, x ∈ m) → ∃ r, m.Perm (l ++ r) := by
    intro l
    induction l with
    | nil => exact fun {m} _ _ => ⟨m, .refl _⟩
    | cons x l ih =>
      intro m nd h
      obtain ⟨n1, n2⟩ := List.nodup_cons.mp nd
      obtain ⟨r, hr⟩ := ih (m := m.erase x) n2 fun y hy => (List.mem_erase_of_ne (fun e => n1 (by rw [← e]; exact hy))).mpr (h y (List.mem_cons_of_mem _ hy))
      exact ⟨r, (List.perm_cons_erase (h x List.mem_cons_self)).trans (hr.cons x)⟩
  intro l m nd h
  obtain ⟨r, hr⟩ := sub nd fun x hx => (h x).mp hx
  have e := hr.length_eq
  rw [List.length_append] at e
  refine ⟨by omega, fun z => ?_, fun z => ?_⟩
  · have : r = [] := List.eq_nil_of_length_eq_zero (by omega)
    rw [this, List.append_nil] at hr
    exact hr.nodup_iff.mpr nd
  · obtain ⟨r', hr'⟩ := sub z fun x hx => (h x).mpr hx
    have e' := hr'.length_eq
    rw [List.length_append] at e'
    omega
theorem neigh_tup {w : W} (h : neighB w = true) : ∃ (x : Str) (i j l : Int), w = .tup [.str x, .int i, .int j, .int l] ∧ Nme x := by
  unfold neighB at h
  split at h
  · rename_i a b c d
    rw [Bool.and_eq_true, Bool.and_eq_true, Bool.and_eq_true, Bool.and_eq_true] at h
    obtain ⟨x, rfl, hx⟩ := nameB_str h.1.1
    obtain ⟨i, rfl, _⟩ := whole_int h.1.2.1.1
    obtain ⟨j, rfl, _⟩ := whole_int h.1.2.1.2
    obtain ⟨l, rfl, _⟩ := whole_int h.1.2.2
    exact ⟨x, i, j, l, rfl, hx⟩
  · cases h
theorem neigh_all {us : List W} (h : us.all neighB = true) : ∃ ns : List Nb, us = ns.map eN ∧ ∀ x ∈ ns, Nme x.1 := by
  induction us with
  | nil => exact ⟨[], rfl, fun _ h => nomatch h⟩
  | cons w us ih =>
    rw [List.all_cons, Bool.and_eq_true] at h
    obtain ⟨x, i, j, l, rfl, hx⟩ := neigh_tup h.1
    obtain ⟨ns, rfl, hn⟩ := ih h.2
    refine ⟨(x, i, j, l) :: ns, rfl, fun y hy => ?_⟩
    rcases List.mem_cons.mp hy with rfl | hy
    · exact hx
    · exact hn y hy
theorem hd_map (ns : List Nb) : (ns.map eN).map hdS = ns.map (·.1) := by rw [List.map_map]; rfl
theorem strs_map' {α : Type} (f : α → Str) (xs : List α) : strsW (xs.map fun x => W.str (f x)) = some (xs.map f) := by
  have := LD.strs_map f xs
  exact this
section
variable {Φ : Nat → MP.Spec} {ρ : MP.Env} {S : Sto} {Q : WK} {X : XC}
theorem e_lsts {a : CE} (h : (wp Φ a).e ρ S (fun x S1 => ∃ ws ss, rdL S1 x = some ws ∧ strsW ws = some ss ∧ ws.length < 256 ∧ ∀ L : List Str, L.Nodup → (∀ k, k ∈ L ↔ k ∈ ss) → Q (.int L.length) S1) X) : (wp Φ (.lsts a)).e ρ S Q X := h
end
def spNeedT : MP.Spec := fun ws S Q X => ∃ w, ws = [w] ∧ Ls S w ∧ (townB w = true → Q .non S) ∧ (townB w = false → X ⟨"BadTown", none⟩ S) ∧ ∀ e S', X e S' → e.nm = none
theorem ok_needT {Φ : Nat → MP.Spec} (h3 : Φ 3 = spNeigh) {ws : List W} {S : Sto} {Q : WK} {X : XC} (h : spNeedT ws S Q X) : wps Φ c4 (startW N4 ws) S (dEnds Q X) := by
  obtain ⟨w, rfl, hw, q1, q2, _⟩ := h
  unfold c4
  show wps Φ _ [some w, none] S (dEnds Q X)
  obtain ⟨k, hk⟩ := hw.knd
  have bad : townB w = false → wps Φ (CS.seq (.rse "BadTown" "no town") .nil) [some w, none] S (dEnds Q X) := fun h => ⟨S, fewer_rfl, q2 h⟩
  repeat' contradiction
  refine ⟨k, hk, ?_⟩
  repeat' contradiction
  by_cases c : k = .lst
  · subst c
    obtain ⟨us, rfl, hr, hl⟩ : ∃ us, w = .lst us ∧ (∀ w ∈ us, Rw S w) ∧ us.length ≤ 100 := by
      cases hw with
      | lst us h l => exact ⟨us, rfl, h, l⟩
      | _ => cases hk
    refine iteF' rfl ?_
    repeat' contradiction
    refine e_glbI ?_
    repeat' contradiction
    refine LD.ite_d (fun c1 => ?_) (fun c1 => ?_)
    · refine iteT' rfl (bad ?_)
      show (decide (us.length ≤ 12) && _ && _) = false
      rw [decide_eq_false (by omega)]; rfl
    · repeat' contradiction
      refine ⟨_, rfl, ?_⟩
      refine lc_mi (fun w => .bl (neighB w)) rfl (le_line (by omega)) (fun x hx K hK => ?_) ?_
      · repeat' contradiction
        rw [h3]
        exact ⟨x, rfl, hr x hx, hK⟩
      repeat' contradiction
      refine l_all (ns := us.map neighB) (by rw [List.map_map]; rfl) ?_
      repeat' contradiction
      have e1 : (us.map neighB).all id = us.all neighB := by rw [List.all_map]; rfl
      rw [e1]
      cases e2 : us.all neighB with
      | false =>
        refine iteT' rfl (bad ?_)
        show (_ && us.all neighB && _) = false
        rw [e2, Bool.and_false, Bool.false_and]
      | true =>
        refine iteF' rfl ?_
        repeat' contradiction
        obtain ⟨ns, rfl, hn⟩ := neigh_all e2
        rw [List.length_map] at hl c1
        refine e_lsts ?_
        repeat' contradiction
        refine ⟨_, rfl, ?_⟩
        refine lc_mp (enc := eN) (xs := ns) (fun x => .str x.1) rfl (le_line (by omega)) (fun x hx K hK => ?_) ?_
        · repeat' contradiction
          exact hK
        repeat' contradiction
        refine ⟨_, ns.map (·.1), rfl, strs_map' _ ns, by rw [List.length_map]; omega, fun L nd hL => ?_⟩
        repeat' contradiction
        have z := nd_len nd hL
        rw [List.length_map] at z
        have e3 : townB (.lst (ns.map eN)) = decide ((ns.map (·.1)).Nodup) := by
          show (decide ((ns.map eN).length ≤ 12) && (ns.map eN).all neighB && decide (((ns.map eN).map hdS).Nodup)) = _
          rw [e2, hd_map, decide_eq_true (by rw [List.length_map]; omega)]; rfl
        rw [List.length_map]
        refine LD.ite_d (fun c2 => ?_) (fun c2 => ?_)
        · refine ⟨S, fewer_rfl, q2 ?_⟩
          rw [e3, decide_eq_false]
          intro y
          have := z.2.mpr y
          omega
        · refine ⟨S, fewer_rfl, q1 ?_⟩
          rw [e3, decide_eq_true]
          exact z.2.mp (by omega)
  · refine iteT' (by rw [sub_lst, decide_eq_false c]; rfl) ?_
    refine iteT' rfl (bad ?_)
    cases w with
    | lst us => cases hk; exact absurd rfl c
    | _ => rfl
end K01

set_option Elab.async false
set_option linter.all false
set_option maxRecDepth 100000
set_option maxHeartbeats 4000000
/-! K01d: the law's look at neighbours and towns. -/
namespace K01
open PySem PySem.Spec PyProof.Rows L2 MP NM DK LF LG LH EX EY ST LK
local macro_rules
  | `(tactic| contradiction) => `(tactic| first | with_reducible refine d_in ?_ | with_reducible refine s_nil ?_ | with_reducible refine s_seq ?_ | with_reducible refine s_asg ?_ | with_reducible refine s_par ?_ | with_reducible refine s_expr ?_ | with_reducible refine s_ret ?_ | with_reducible refine s_retN ?_ | with_reducible refine s_iff ?_ | with_reducible refine s_fr ?_ | with_reducible refine s_cont ?_ | with_reducible refine s_brk ?_ | with_reducible refine s_pass ?_ | with_reducible refine s_augS ?_ | with_reducible refine e_int ?_ | with_reducible refine e_str ?_ | with_reducible refine e_bool ?_ | with_reducible refine e_none ?_ | with_reducible refine e_bin ?_ | with_reducible refine e_neg ?_ | with_reducible refine e_nt ?_ | with_reducible refine e_cmp ?_ | with_reducible refine e_chain ?_ | with_reducible refine e_an ?_ | with_reducible refine e_or ?_ | with_reducible refine an_1 ?_ | with_reducible refine an_2 ?_ | with_reducible refine or_1 ?_ | with_reducible refine or_2 ?_ | with_reducible refine e_ife ?_ | with_reducible refine e_call ?_ | with_reducible refine e_blt ?_ | with_reducible refine e_mth ?_ | with_reducible refine e_idx ?_ | with_reducible refine e_slc ?_ | with_reducible refine e_rev ?_ | with_reducible refine e_tup ?_ | with_reducible refine e_lst ?_ | with_reducible refine e_dnew ?_ | with_reducible refine e_dct ?_ | with_reducible refine e_isi ?_ | with_reducible refine e_lrg ?_ | with_reducible refine e_lzip ?_ | with_reducible refine e_stp ?_ | with_reducible refine e_sset ?_ | with_reducible refine es_n ?_ | with_reducible refine es_c ?_ | with_reducible refine o_nil ?_ | with_reducible refine o_var ?_ | with_reducible refine o_cst ?_ | with_reducible refine o_bin ?_ | with_reducible refine o_neg ?_ | with_reducible refine o_blt ?_ | with_reducible refine o_call ?_ | with_reducible refine ik ?_ | with_reducible refine ng ?_ | with_reducible refine tq_bl ?_ | with_reducible refine tq_int ?_ | with_reducible refine tq_non ?_ | with_reducible refine tq_lst ?_ | with_reducible refine tq_tup ?_ | with_reducible refine t_var ?_ | with_reducible refine t_call ?_ | with_reducible refine t_blt ?_ | with_reducible refine t_mth ?_ | with_reducible refine t_idx ?_ | with_reducible refine t_isi ?_ | with_reducible refine t_cst ?_ | with_reducible refine t_nt ?_ | with_reducible refine t_cmp ?_ | with_reducible refine t_chain ?_ | with_reducible refine t_an ?_ | with_reducible refine t_or ?_ | with_reducible refine ant_1 ?_ | with_reducible refine ant_2 ?_ | with_reducible refine ort_1 ?_ | with_reducible refine ort_2 ?_ | with_reducible refine tr_bl ?_ | with_reducible refine tr_int ?_ | with_reducible refine tr_lst ?_ | with_reducible refine tr_non ?_ | with_reducible refine c_nil ?_ | with_reducible refine c_one ?_ | with_reducible refine g_sub ?_ | with_reducible refine gs_n ?_ | with_reducible refine gs_c ?_ | with_reducible refine i_seq ?_ | with_reducible refine i_rng1 ?_ | with_reducible refine i_rng2 ?_ | with_reducible refine i_rng3 ?_ | with_reducible refine i_zip ?_ | with_reducible refine i_enm ?_ | with_reducible refine b_add ?_ | with_reducible refine b_sub ?_ | with_reducible refine c_lt ?_ | with_reducible refine c_le ?_ | with_reducible refine c_gt ?_ | with_reducible refine c_ge ?_ | with_reducible refine mk_f ?_ | with_reducible refine ref_and ?_ | with_reducible refine u_set ?_ | with_reducible refine eq_i ?_ | with_reducible refine ne_i ?_ | with_reducible refine eq_b ?_ | with_reducible refine ne_b ?_ | with_reducible refine is_b ?_ | with_reducible refine isn_b ?_ | with_reducible refine is_n ?_ | with_reducible refine isn_n ?_ | with_reducible refine e_v0 ?_ | with_reducible refine g_v0 ?_ | with_reducible refine s_u0 ?_ | with_reducible refine e_v1 ?_ | with_reducible refine g_v1 ?_ | with_reducible refine s_u1 ?_ | with_reducible refine e_v2 ?_ | with_reducible refine g_v2 ?_ | with_reducible refine s_u2 ?_ | with_reducible refine e_v3 ?_ | with_reducible refine g_v3 ?_ | with_reducible refine s_u3 ?_ | with_reducible refine e_v4 ?_ | with_reducible refine g_v4 ?_ | with_reducible refine s_u4 ?_ | with_reducible refine e_v5 ?_ | with_reducible refine g_v5 ?_ | with_reducible refine s_u5 ?_ | with_reducible refine e_v6 ?_ | with_reducible refine g_v6 ?_ | with_reducible refine s_u6 ?_ | with_reducible refine e_v7 ?_ | with_reducible refine g_v7 ?_ | with_reducible refine s_u7 ?_ | with_reducible refine e_v8 ?_ | with_reducible refine g_v8 ?_ | with_reducible refine s_u8 ?_ | with_reducible refine e_v9 ?_ | with_reducible refine g_v9 ?_ | with_reducible refine s_u9 ?_ | with_reducible refine e_v10 ?_ | with_reducible refine g_v10 ?_ | with_reducible refine s_u10 ?_ | with_reducible refine e_v11 ?_ | with_reducible refine g_v11 ?_ | with_reducible refine s_u11 ?_ | with_reducible refine e_v12 ?_ | with_reducible refine g_v12 ?_ | with_reducible refine s_u12 ?_ | with_reducible refine e_v13 ?_ | with_reducible refine g_v13 ?_ | with_reducible refine s_u13 ?_ | with_reducible refine e_v14 ?_ | with_reducible refine g_v14 ?_ | with_reducible refine s_u14 ?_ | with_reducible refine e_v15 ?_ | with_reducible refine g_v15 ?_ | with_reducible refine s_u15 ?_ | with_reducible refine e_v16 ?_ | with_reducible refine g_v16 ?_ | with_reducible refine s_u16 ?_ | with_reducible refine e_v17 ?_ | with_reducible refine g_v17 ?_ | with_reducible refine s_u17 ?_ | with_reducible refine e_v18 ?_ | with_reducible refine g_v18 ?_ | with_reducible refine s_u18 ?_ | with_reducible refine e_v19 ?_ | with_reducible refine g_v19 ?_ | with_reducible refine s_u19 ?_ | ((with_reducible refine e_lc' (ρ' := ?rr) ?hw ?_); (case hw => (dsimp only [wipeW, List.map, List.set]; exact rfl))) | ((with_reducible refine g_tup ?hl ?_); (case hl => exact rfl)) | with_reducible refine b_mod (by first | decide | omega) ?_ | ((with_reducible refine b_pow (pow_ok (by decide) (by decide) (by decide)) ?_); simp only [Int.reduceToNat, Int.reducePow]) | with_reducible refine le_and (by simp only [List.length_cons, List.length_nil]; decide) ?_ | with_reducible refine l_intB ?_ | with_reducible refine l_intI ?_ | with_reducible refine sl_f ?_ | (refine l_len (by exact rfl) (q := ?_); skip) | (refine l_list (by exact rfl) ?_; skip) | (refine ix_t (by exact rfl) ?_; skip))

theorem Od.lname {S : Sto} {w : W} (h : Od S w) : ∀ x, w = .str x → x.length ≤ sizeLine ∧ (PyData.str x).canLay0 = true := by
  rintro x rfl
  cases h with
  | str x a b => exact ⟨le_line (by omega), a⟩
theorem all_in {α : Type} {f : α → Bool} {xs : List α} : false ∈ xs.map f ↔ xs.all f = false := by
  rw [List.mem_map, ← Bool.not_eq_true, List.all_eq_true]
  constructor
  · rintro ⟨x, hx, e⟩ h
    rw [h x hx] at e; cases e
  · intro h
    exact Classical.byContradiction fun z => h fun x hx => by
      cases e : f x with
      | true => rfl
      | false => exact absurd ⟨x, hx, e⟩ z
theorem ok_good1 {Φ : Nat → MP.Spec} (h14 : Φ 14 = spWhole) (h15 : Φ 15 = spLName) {ws : List W} {S : Sto} {Q : WK} {X X0 : XC} (h : spNeigh ws S Q X) : wps Φ c16 (startW N16 ws) S (dEnds Q X0) := by
  obtain ⟨w, rfl, hw, q⟩ := h
  unfold c16
  show wps Φ _ [some w, none] S (dEnds Q X0)
  obtain ⟨k, hk⟩ := hw.knd
  repeat' contradiction
  refine ⟨k, hk, ?_⟩
  repeat' contradiction
  by_cases c : ¬ k = .tup
  · refine iteT' (by rw [sub_tup, decide_eq_false c]; rfl) ?_
    refine iteT' rfl ?_
    repeat' contradiction
    refine d_same ?_
    have : neighB w = false := by
      cases w with
      | tup us => cases hk; exact absurd rfl c
      | _ => rfl
    rw [← this]; exact q
  obtain rfl := Decidable.not_not.mp c
  obtain ⟨us, rfl⟩ := knd_tup hk
  refine iteF' rfl ?_
  repeat' contradiction
  refine LD.ite_d (fun cn => ?_) (fun cn => ?_)
  · refine iteT' rfl ?_
    repeat' contradiction
    refine d_same ?_
    have : neighB (.tup us) = false := neigh_row (by
      show decide ((us.length : Int) = 4) = false
      exact decide_eq_false cn)
    rw [← this]; exact q
  obtain ⟨a, b, c, d, rfl⟩ := four (us := us) (by omega)
  obtain ⟨oa, ob, oc, od⟩ := hw.at4
  repeat' contradiction
  rw [h15]
  obtain ⟨ka, ha⟩ := oa.knd
  refine ⟨a, ka, rfl, ha, oa.lname, ?_⟩
  repeat' contradiction
  cases e1 : nameB a with
  | false =>
    refine iteT' rfl ?_
    repeat' contradiction
    refine d_same ?_
    have : neighB (.tup [a, b, c, d]) = false := by show (nameB a && _ && _) = false; rw [e1]; rfl
    rw [← this]; exact q
  | true =>
    refine iteF' rfl ?_
    repeat' contradiction
    refine sl_t ?_
    refine ⟨[b, c, d], rfl, ?_⟩
    refine lc_mi (fun w => .bl (whB w)) rfl (le_line (by simp)) (fun x hx K hK => ?_) ?_
    · repeat' contradiction
      rw [h14]
      have ox : Od S x := by
        simp only [List.mem_cons, List.not_mem_nil, or_false] at hx
        rcases hx with rfl | rfl | rfl
        · exact ob
        · exact oc
        · exact od
      obtain ⟨kx, hkx⟩ := ox.knd
      exact ⟨x, kx, _, _, rfl, hkx, hK⟩
    repeat' contradiction
    have e0 : [b, c, d].map (fun w => W.bl (whB w)) = ([b, c, d].map whB).map W.bl := rfl
    rw [e0]
    refine in_bls fun r hr => ?_
    rw [all_in] at hr
    have e2 : [b, c, d].all whB = (whB b && whB c && whB d) := by
      show (whB b && (whB c && (whB d && true))) = _
      rw [Bool.and_true, Bool.and_assoc]
    rw [e2] at hr
    cases e3 : (whB b && whB c && whB d) with
    | false =>
      refine iteT' (hr.mpr e3) ?_
      repeat' contradiction
      refine d_same ?_
      have : neighB (.tup [a, b, c, d]) = false := by
        show (nameB a && (whB b && whB c && whB d) && _) = false
        rw [e3, Bool.and_false, Bool.false_and]
      rw [← this]; exact q
    | true =>
      refine iteF' (b_f hr (by rw [e3]; exact Bool.noConfusion)) ?_
      rw [Bool.and_eq_true, Bool.and_eq_true] at e3
      obtain ⟨i, rfl, i0, i1⟩ := whole_int e3.1.1
      obtain ⟨j, rfl, j0, j1⟩ := whole_int e3.1.2
      obtain ⟨l, rfl, l0, l1⟩ := whole_int e3.2
      have all : neighB (.tup [a, .int i, .int j, .int l]) = (decide (j ≤ i) && decide (i ≤ l)) := by
        show (nameB a && (whB (.int i) && whB (.int j) && whB (.int l)) && (decide (j ≤ i) && decide (i ≤ l))) = _
        rw [e1, e3.1.1, e3.1.2, e3.2]; rfl
      rw [all] at q
      repeat' contradiction
      refine LD.ite_d (fun c => ?_) (fun c => ?_)
      · repeat' contradiction
        rw [decide_eq_true c, Bool.true_and] at q
        exact d_same q
      · rw [decide_eq_false c, Bool.false_and] at q
        exact d_same q
/-! ### towns -/
theorem nd_count {α : Type} [DecidableEq α] : ∀ {xs : List α}, xs.Nodup ↔ ∀ x ∈ xs, ¬ 1 < xs.count x
  | [] => ⟨fun _ _ h => (nomatch h), fun _ => List.nodup_nil⟩
  | y :: xs => by
    rw [List.nodup_cons, nd_count]
    constructor
    · rintro ⟨h1, h2⟩ x hx
      rw [List.count_cons]
      by_cases e : y = x
      · subst e
        rw [List.count_eq_zero.mpr h1]
        simp
      · have : (y == x) = false := by simpa using e
        rw [this]
        have hx' : x ∈ xs := (List.mem_cons.mp hx).elim (fun z => absurd z.symm e) id
        have := h2 x hx'
        simpa using this
    · intro h
      refine ⟨fun hy => ?_, fun x hx z => h x (List.mem_cons_of_mem _ hx) ?_⟩
      · refine h y List.mem_cons_self ?_
        rw [List.count_cons]
        have := List.count_pos_iff.mpr hy
        simp; omega
      · rw [List.count_cons]; omega
theorem m_countS {xs : List Str} {x : Str} {S : Sto} {Q : WK} (hs : ∀ y ∈ xs, (PyData.str y).canLay0 = true) (hx : (PyData.str x).canLay0 = true) (q : Q (.int ((xs.count x : Nat) : Int)) S) : mthW .count (.lst (xs.map W.str)) [.str x] S Q := by
  have pl : ∀ w ∈ xs.map W.str, Pln 0 w := fun w hw => by
    obtain ⟨y, hy, rfl⟩ := List.mem_map.mp hw
    exact .str 0 y (hs y hy)
  refine ⟨_, .str x, datL (xs.map W.str), rfl, VwL.of fun w hw => (pl w hw).vw, .str x, (Pln.lst 0 _ pl).shaped (by decide), (Pln.str 0 x hx).shaped (by decide), ?_⟩
  have e : (datL (xs.map W.str)).countP (fun z => PyData.eqv z (.str x)) = xs.count x := by
    rw [datL_map, List.map_map, List.countP_map]
    rfl
  rw [e]; exact q
def spGoodT : MP.Spec := fun ws S Q _ => ∃ w, ws = [w] ∧ Ls S w ∧ Q (.bl (townB w)) S
theorem ok_goodT {Φ : Nat → MP.Spec} (h16 : Φ 16 = spNeigh) {ws : List W} {S : Sto} {Q : WK} {X X0 : XC} (h : spGoodT ws S Q X) : wps Φ c17 (startW N17 ws) S (dEnds Q X0) := by
  obtain ⟨w, rfl, hw, q⟩ := h
  unfold c17
  show wps Φ _ [some w, none, none, none] S (dEnds Q X0)
  obtain ⟨k, hk⟩ := hw.knd
  have bad : townB w = false → dRt Q (.bl false) S := fun h => d_same (by rw [← h]; exact q)
  repeat' contradiction
  refine ⟨k, hk, ?_⟩
  repeat' contradiction
  by_cases c : ¬ k = .lst
  · refine iteT' (by rw [sub_lst, decide_eq_false c]; rfl) ?_
    refine iteT' rfl ?_
    repeat' contradiction
    refine bad ?_
    cases w with
    | lst us => cases hk; exact absurd rfl c
    | _ => rfl
  obtain rfl := Decidable.not_not.mp c
  obtain ⟨us, rfl, hr, hl⟩ : ∃ us, w = .lst us ∧ (∀ w ∈ us, Rw S w) ∧ us.length ≤ 100 := by
    cases hw with
    | lst us h l => exact ⟨us, rfl, h, l⟩
    | _ => cases hk
  refine iteF' rfl ?_
  repeat' contradiction
  refine LD.ite_d (fun c1 => ?_) (fun c1 => ?_)
  · refine iteT' rfl ?_
    repeat' contradiction
    refine bad ?_
    show (decide (us.length ≤ 12) && _ && _) = false
    rw [decide_eq_false (by omega)]; rfl
  repeat' contradiction
  refine ⟨_, rfl, ?_⟩
  refine lc_mi (fun w => .bl (neighB w)) rfl (le_line (by omega)) (fun x hx K hK => ?_) ?_
  · repeat' contradiction
    rw [h16]
    exact ⟨x, rfl, hr x hx, hK⟩
  repeat' contradiction
  have e0 : us.map (fun w => W.bl (neighB w)) = (us.map neighB).map W.bl := by rw [List.map_map]; rfl
  rw [e0]
  refine in_bls fun r hr2 => ?_
  rw [all_in] at hr2
  cases e2 : us.all neighB with
  | false =>
    refine iteT' (hr2.mpr e2) ?_
    repeat' contradiction
    refine bad ?_
    show (_ && us.all neighB && _) = false
    rw [e2, Bool.and_false, Bool.false_and]
  | true =>
    refine iteF' (b_f hr2 (by rw [e2]; exact Bool.noConfusion)) ?_
    obtain ⟨ns, rfl, hn⟩ := neigh_all e2
    rw [List.length_map] at hl c1
    repeat' contradiction
    refine ⟨_, rfl, ?_⟩
    refine lc_mp (enc := eN) (xs := ns) (fun x => .str x.1) rfl (le_line (by omega)) (fun x hx K hK => ?_) ?_
    · repeat' contradiction
      exact hK
    repeat' contradiction
    refine ⟨_, rfl, ?_⟩
    have e4 : ns.map (fun x => W.str x.1) = (ns.map (·.1)).map W.str := by rw [List.map_map]; rfl
    rw [e4]
    have e3 : townB (.lst (ns.map eN)) = decide ((ns.map (·.1)).Nodup) := by
      show (decide ((ns.map eN).length ≤ 12) && (ns.map eN).all neighB && decide (((ns.map eN).map hdS).Nodup)) = _
      rw [e2, hd_map, decide_eq_true (by rw [List.length_map]; omega)]; rfl
    rw [e3] at q
    have can : ∀ y ∈ ns.map (·.1), (PyData.str y).canLay0 = true := fun y hy => by
      obtain ⟨x, hx, rfl⟩ := List.mem_map.mp hy
      exact (hn x hx).can
    have hl2 : (ns.map (·.1)).length ≤ 100 := by rw [List.length_map]; omega
    generalize ns.map (·.1) = xs at can hl2 q ⊢
    refine lc_fm (S := S) (src := srcW (.lst (xs.map W.str)) (xs.map W.str)) (enc := W.str) (xs := xs) (fun x => decide (1 < ((xs.count x : Nat) : Int))) W.str rfl (le_line (by omega)) (fun x hx K K2 k1 k2 => ?_) ?_
    · repeat' contradiction
      refine rc_l rfl ?_
      repeat' contradiction
      refine m_countS can (can x hx) ?_
      repeat' contradiction
      refine LD.ite_d (fun c => ?_) (fun c => ?_)
      · repeat' contradiction
        exact k1 (decide_eq_true c)
      · exact k2 (decide_eq_false c)
    repeat' contradiction
    refine eq_p (n := 1) (m := 1) (pln_map fun c hc => .str 0 _ (can c (List.mem_filter.mp hc).1)) (.lst 0 [] fun _ h => nomatch h) fun b hb => ?_
    refine d_same ?_
    have e5 : decide xs.Nodup = b := by
      rw [Bool.eq_iff_iff, hb, decide_eq_true_iff, nd_count]
      constructor
      · intro h
        have : xs.filter (fun x => decide (1 < ((xs.count x : Nat) : Int))) = [] := List.filter_eq_nil_iff.mpr fun x hx z => h x hx (by have := of_decide_eq_true z; omega)
        rw [this]; rfl
      · intro h x hx z
        injection h with h
        exact List.filter_eq_nil_iff.mp (List.map_eq_nil_iff.mp h) x hx (decide_eq_true (by omega))
    rw [← e5]; exact q
end K01

set_option Elab.async false
set_option linter.all false
set_option maxRecDepth 100000
set_option maxHeartbeats 4000000
/-! K01e: offers, wishes, skills. -/
namespace K01
open PySem PySem.Spec PyProof.Rows L2 MP NM DK LF LG LH EX EY EZ ST LK
local macro_rules
  | `(tactic| contradiction) => `(tactic| first | with_reducible refine d_in ?_ | with_reducible refine s_nil ?_ | with_reducible refine s_seq ?_ | with_reducible refine s_asg ?_ | with_reducible refine s_par ?_ | with_reducible refine s_expr ?_ | with_reducible refine s_ret ?_ | with_reducible refine s_retN ?_ | with_reducible refine s_iff ?_ | with_reducible refine s_fr ?_ | with_reducible refine s_cont ?_ | with_reducible refine s_brk ?_ | with_reducible refine s_pass ?_ | with_reducible refine s_augS ?_ | with_reducible refine e_int ?_ | with_reducible refine e_str ?_ | with_reducible refine e_bool ?_ | with_reducible refine e_none ?_ | with_reducible refine e_bin ?_ | with_reducible refine e_neg ?_ | with_reducible refine e_nt ?_ | with_reducible refine e_cmp ?_ | with_reducible refine e_chain ?_ | with_reducible refine e_an ?_ | with_reducible refine e_or ?_ | with_reducible refine an_1 ?_ | with_reducible refine an_2 ?_ | with_reducible refine or_1 ?_ | with_reducible refine or_2 ?_ | with_reducible refine e_ife ?_ | with_reducible refine e_call ?_ | with_reducible refine e_blt ?_ | with_reducible refine e_mth ?_ | with_reducible refine e_idx ?_ | with_reducible refine e_slc ?_ | with_reducible refine e_rev ?_ | with_reducible refine e_tup ?_ | with_reducible refine e_lst ?_ | with_reducible refine e_dnew ?_ | with_reducible refine e_dct ?_ | with_reducible refine e_isi ?_ | with_reducible refine e_lrg ?_ | with_reducible refine e_lzip ?_ | with_reducible refine e_stp ?_ | with_reducible refine e_sset ?_ | with_reducible refine es_n ?_ | with_reducible refine es_c ?_ | with_reducible refine o_nil ?_ | with_reducible refine o_var ?_ | with_reducible refine o_cst ?_ | with_reducible refine o_bin ?_ | with_reducible refine o_neg ?_ | with_reducible refine o_blt ?_ | with_reducible refine o_call ?_ | with_reducible refine ik ?_ | with_reducible refine ng ?_ | with_reducible refine tq_bl ?_ | with_reducible refine tq_int ?_ | with_reducible refine tq_non ?_ | with_reducible refine tq_lst ?_ | with_reducible refine tq_tup ?_ | with_reducible refine t_var ?_ | with_reducible refine t_call ?_ | with_reducible refine t_blt ?_ | with_reducible refine t_mth ?_ | with_reducible refine t_idx ?_ | with_reducible refine t_isi ?_ | with_reducible refine t_cst ?_ | with_reducible refine t_nt ?_ | with_reducible refine t_cmp ?_ | with_reducible refine t_chain ?_ | with_reducible refine t_an ?_ | with_reducible refine t_or ?_ | with_reducible refine ant_1 ?_ | with_reducible refine ant_2 ?_ | with_reducible refine ort_1 ?_ | with_reducible refine ort_2 ?_ | with_reducible refine tr_bl ?_ | with_reducible refine tr_int ?_ | with_reducible refine tr_lst ?_ | with_reducible refine tr_non ?_ | with_reducible refine c_nil ?_ | with_reducible refine c_one ?_ | with_reducible refine g_sub ?_ | with_reducible refine gs_n ?_ | with_reducible refine gs_c ?_ | with_reducible refine i_seq ?_ | with_reducible refine i_rng1 ?_ | with_reducible refine i_rng2 ?_ | with_reducible refine i_rng3 ?_ | with_reducible refine i_zip ?_ | with_reducible refine i_enm ?_ | with_reducible refine b_add ?_ | with_reducible refine b_sub ?_ | with_reducible refine c_lt ?_ | with_reducible refine c_le ?_ | with_reducible refine c_gt ?_ | with_reducible refine c_ge ?_ | with_reducible refine mk_f ?_ | with_reducible refine ref_and ?_ | with_reducible refine u_set ?_ | with_reducible refine eq_i ?_ | with_reducible refine ne_i ?_ | with_reducible refine eq_b ?_ | with_reducible refine ne_b ?_ | with_reducible refine is_b ?_ | with_reducible refine isn_b ?_ | with_reducible refine is_n ?_ | with_reducible refine isn_n ?_ | with_reducible refine e_v0 ?_ | with_reducible refine g_v0 ?_ | with_reducible refine s_u0 ?_ | with_reducible refine e_v1 ?_ | with_reducible refine g_v1 ?_ | with_reducible refine s_u1 ?_ | with_reducible refine e_v2 ?_ | with_reducible refine g_v2 ?_ | with_reducible refine s_u2 ?_ | with_reducible refine e_v3 ?_ | with_reducible refine g_v3 ?_ | with_reducible refine s_u3 ?_ | with_reducible refine e_v4 ?_ | with_reducible refine g_v4 ?_ | with_reducible refine s_u4 ?_ | with_reducible refine e_v5 ?_ | with_reducible refine g_v5 ?_ | with_reducible refine s_u5 ?_ | with_reducible refine e_v6 ?_ | with_reducible refine g_v6 ?_ | with_reducible refine s_u6 ?_ | with_reducible refine e_v7 ?_ | with_reducible refine g_v7 ?_ | with_reducible refine s_u7 ?_ | with_reducible refine e_v8 ?_ | with_reducible refine g_v8 ?_ | with_reducible refine s_u8 ?_ | with_reducible refine e_v9 ?_ | with_reducible refine g_v9 ?_ | with_reducible refine s_u9 ?_ | with_reducible refine e_v10 ?_ | with_reducible refine g_v10 ?_ | with_reducible refine s_u10 ?_ | with_reducible refine e_v11 ?_ | with_reducible refine g_v11 ?_ | with_reducible refine s_u11 ?_ | with_reducible refine e_v12 ?_ | with_reducible refine g_v12 ?_ | with_reducible refine s_u12 ?_ | with_reducible refine e_v13 ?_ | with_reducible refine g_v13 ?_ | with_reducible refine s_u13 ?_ | with_reducible refine e_v14 ?_ | with_reducible refine g_v14 ?_ | with_reducible refine s_u14 ?_ | with_reducible refine e_v15 ?_ | with_reducible refine g_v15 ?_ | with_reducible refine s_u15 ?_ | with_reducible refine e_v16 ?_ | with_reducible refine g_v16 ?_ | with_reducible refine s_u16 ?_ | with_reducible refine e_v17 ?_ | with_reducible refine g_v17 ?_ | with_reducible refine s_u17 ?_ | with_reducible refine e_v18 ?_ | with_reducible refine g_v18 ?_ | with_reducible refine s_u18 ?_ | with_reducible refine e_v19 ?_ | with_reducible refine g_v19 ?_ | with_reducible refine s_u19 ?_ | ((with_reducible refine e_lc' (ρ' := ?rr) ?hw ?_); (case hw => (dsimp only [wipeW, List.map, List.set]; exact rfl))) | ((with_reducible refine g_tup ?hl ?_); (case hl => exact rfl)) | with_reducible refine b_mod (by first | decide | omega) ?_ | ((with_reducible refine b_pow (pow_ok (by decide) (by decide) (by decide)) ?_); simp only [Int.reduceToNat, Int.reducePow]) | with_reducible refine le_and (by simp only [List.length_cons, List.length_nil]; decide) ?_ | with_reducible refine l_intB ?_ | with_reducible refine l_intI ?_ | with_reducible refine sl_f ?_ | (refine l_len (by exact rfl) (q := ?_); skip) | (refine l_list (by exact rfl) ?_; skip) | (refine ix_t (by exact rfl) ?_; skip))

def inB (names : List Str) : W → Bool
  | .str x => decide (x ∈ names)
  | _ => false
abbrev hrB (w : W) : Bool := wholeB 1 (10 ^ 30) w
def toldB (names : List Str) : W → Bool
  | .tup [a, b, c] => (nameB a && nameB b) && (inB names a && hrB c)
  | _ => false
theorem three' {us : List W} (h : us.length = 3) : ∃ a b c, us = [a, b, c] := by
  obtain _ | ⟨a, _ | ⟨b, _ | ⟨c, _ | ⟨d, r⟩⟩⟩⟩ := us <;> simp at h
  exact ⟨a, b, c, rfl⟩
theorem two' {us : List W} (h : us.length = 2) : ∃ a b, us = [a, b] := by
  obtain _ | ⟨a, _ | ⟨b, _ | ⟨c, r⟩⟩⟩ := us <;> simp at h
  exact ⟨a, b, rfl⟩
theorem row3 {w : W} (h : rowB w 3 = true) : ∃ a b c, w = .tup [a, b, c] := by
  cases w with
  | tup us =>
    have := of_decide_eq_true (show decide ((us.length : Int) = 3) = true from h)
    obtain ⟨a, b, c, rfl⟩ := three' (us := us) (by omega)
    exact ⟨a, b, c, rfl⟩
  | _ => cases h
theorem told_row {names : List Str} {w : W} (h : rowB w 3 = false) : toldB names w = false := by
  cases w with
  | tup us =>
    have := of_decide_eq_false (show decide ((us.length : Int) = 3) = false from h)
    unfold toldB
    split
    · rename_i e
      injection e with e
      rw [e] at this
      exact absurd rfl this
    · rfl
  | _ => rfl
theorem Rw.at3 {S : Sto} {a b c : W} (h : Rw S (.tup [a, b, c])) : Od S a ∧ Od S b ∧ Od S c := by
  cases h with
  | tup ws h => exact ⟨h a (by simp), h b (by simp), h c (by simp)⟩
def spTold : MP.Spec := fun ws S Q _ => ∃ (w : W) (names : List Str), ws = [w, .lst (names.map W.str)] ∧ Rw S w ∧ (∀ x ∈ names, Nme x) ∧ Q (.bl (toldB names w)) S
theorem pln_names {names : List Str} (h : ∀ x ∈ names, Nme x) : ∀ w ∈ names.map W.str, Pln 0 w := fun w hw => by
  obtain ⟨x, hx, rfl⟩ := List.mem_map.mp hw
  exact .str 0 x (h x hx).can
theorem mem_str {x : Str} {xs : List Str} : W.str x ∈ xs.map W.str ↔ x ∈ xs := by
  rw [List.mem_map]
  exact ⟨fun ⟨y, hy, e⟩ => by injection e with e; exact e ▸ hy, fun h => ⟨x, h, rfl⟩⟩
theorem ok_told {Φ : Nat → MP.Spec} (h0 : Φ 0 = spIsName) (h1 : Φ 1 = spWhole) (h2 : Φ 2 = spIsRow) {ws : List W} {S : Sto} {Q : WK} {X X0 : XC} (h : spTold ws S Q X) : wps Φ c5 (startW N5 ws) S (dEnds Q X0) := by
  obtain ⟨w, names, rfl, hw, hn, q⟩ := h
  unfold c5
  show wps Φ _ [some w, some (.lst (names.map W.str))] S (dEnds Q X0)
  obtain ⟨k, hk⟩ := hw.knd
  repeat' contradiction
  rw [h2]
  refine ⟨w, k, 3, rfl, hk, ?_⟩
  repeat' contradiction
  cases e : rowB w 3 with
  | false =>
    refine iteT' rfl ?_
    refine iteT' rfl ?_
    repeat' contradiction
    refine d_same ?_
    rw [told_row e] at q
    exact q
  | true =>
    obtain ⟨a, b, c, rfl⟩ := row3 e
    obtain ⟨oa, ob, oc⟩ := hw.at3
    obtain ⟨ka, ha⟩ := oa.knd
    obtain ⟨kb, hb⟩ := ob.knd
    obtain ⟨kc, hc⟩ := oc.knd
    have all : toldB names (.tup [a, b, c]) = ((nameB a && nameB b) && (inB names a && hrB c)) := rfl
    rw [all] at q
    refine iteF' rfl ?_
    repeat' contradiction
    rw [h0]
    refine ⟨a, ka, rfl, ha, oa.line, ?_⟩
    repeat' contradiction
    cases e1 : nameB a with
    | false =>
      refine iteT' rfl ?_
      refine iteT' rfl ?_
      repeat' contradiction
      rw [e1] at q
      exact d_same q
    | true =>
      refine iteF' rfl ?_
      repeat' contradiction
      rw [h0]
      refine ⟨b, kb, rfl, hb, ob.line, ?_⟩
      repeat' contradiction
      cases e2 : nameB b with
      | false =>
        refine iteT' rfl ?_
        repeat' contradiction
        rw [e1, e2] at q
        exact d_same q
      | true =>
        refine iteF' rfl ?_
        obtain ⟨x, rfl, hx⟩ := nameB_str e1
        rw [e1, e2] at q
        repeat' contradiction
        refine in_lp (n := 0) (m := 0) rfl (.str 0 x hx.can) (pln_names hn) fun r hr => ?_
        rw [mem_str] at hr
        have er : inB names (.str x) = r := by
          show decide (x ∈ names) = r
          rw [Bool.eq_iff_iff, hr, decide_eq_true_iff]
        rw [er] at q
        repeat' contradiction
        cases r with
        | false =>
          refine iteF' rfl ?_
          exact d_same q
        | true =>
          refine iteT' rfl ?_
          repeat' contradiction
          refine e_glbI ?_
          repeat' contradiction
          rw [h1]
          exact ⟨c, kc, _, _, rfl, hc, d_same q⟩
/-- an odd thing among names -/
theorem notin_od {S : Sto} {a : W} {names : List Str} {Q : Bool → Prop} (h : Od S a) (hn : ∀ x ∈ names, Nme x) (q : Q (!inB names a)) : cmpW .NotIn a (.lst (names.map W.str)) S Q := by
  have sh : SeqAt.shaped (.list (datL (names.map W.str))) = true := (Pln.lst 0 _ (pln_names hn)).shaped (by decide)
  have vs : VwL S (names.map W.str) (datL (names.map W.str)) := VwL.of fun w hw => (pln_names hn w hw).vw
  have none_ : ∀ d : PyData, (∀ x, PyData.eqv (.str x) d = false) → (datL (names.map W.str)).any (fun z => PyData.eqv z d) = false := fun d hd => by
    rw [datL_map, List.map_map, List.any_map, List.any_eq_false]
    intro x _ z
    have := hd x
    rw [show ((fun z => PyData.eqv z d) ∘ (datW ∘ W.str)) x = PyData.eqv (.str x) d from rfl, this] at z
    cases z
  cases h with
  | dic p hp =>
    refine .inr (.inr ⟨p, [], _, rfl, by rw [hp]; rfl, rfl, ?_, q⟩)
    rw [List.all_map, List.all_eq_true]
    exact fun _ _ => rfl
  | str x hx _ =>
    refine notin_lp (n := 0) (m := 0) rfl (.str 0 x hx) (pln_names hn) fun r hr => ?_
    rw [mem_str] at hr
    have : (!inB names (.str x)) = r := by
      show (!decide (x ∈ names)) = r
      rw [Bool.eq_iff_iff, hr, Bool.not_eq_true', decide_eq_false_iff_not]
    rw [← this]; exact q
  | non => exact .inl ⟨_, _, _, rfl, .non, vs, rfl, sh, by rw [none_ _ fun _ => rfl]; exact q⟩
  | bl b => exact .inl ⟨_, _, _, rfl, .bl b, vs, rfl, sh, by rw [none_ _ fun _ => rfl]; exact q⟩
  | int i => exact .inl ⟨_, _, _, rfl, .int i, vs, rfl, sh, by rw [none_ _ fun _ => rfl]; exact q⟩
  | nil => exact .inl ⟨_, _, _, rfl, .lst .nil, vs, rfl, sh, by rw [none_ _ fun _ => rfl]; exact q⟩
  | unit => exact .inl ⟨_, _, _, rfl, .tup .nil, vs, rfl, sh, by rw [none_ _ fun _ => rfl]; exact q⟩
theorem ok_goodTold {Φ : Nat → MP.Spec} (h14 : Φ 14 = spWhole) (h15 : Φ 15 = spLName) {ws : List W} {S : Sto} {Q : WK} {X X0 : XC} (h : spTold ws S Q X) : wps Φ c18 (startW N18 ws) S (dEnds Q X0) := by
  obtain ⟨w, names, rfl, hw, hn, q⟩ := h
  unfold c18
  show wps Φ _ [some w, some (.lst (names.map W.str))] S (dEnds Q X0)
  obtain ⟨k, hk⟩ := hw.knd
  repeat' contradiction
  refine ⟨k, hk, ?_⟩
  repeat' contradiction
  by_cases c : ¬ k = .tup
  · refine iteT' (by rw [sub_tup, decide_eq_false c]; rfl) ?_
    refine iteT' rfl ?_
    repeat' contradiction
    refine d_same ?_
    have : toldB names w = false := by
      cases w with
      | tup us => cases hk; exact absurd rfl c
      | _ => rfl
    rw [← this]; exact q
  obtain rfl := Decidable.not_not.mp c
  obtain ⟨us, rfl⟩ := knd_tup hk
  refine iteF' rfl ?_
  repeat' contradiction
  refine LD.ite_d (fun cn => ?_) (fun cn => ?_)
  · refine iteT' rfl ?_
    repeat' contradiction
    refine d_same ?_
    have : toldB names (.tup us) = false := told_row (by
      show decide ((us.length : Int) = 3) = false
      exact decide_eq_false cn)
    rw [← this]; exact q
  obtain ⟨a, b, c', rfl⟩ := three' (us := us) (by omega)
  obtain ⟨oa, ob, oc⟩ := hw.at3
  obtain ⟨kb, hb⟩ := ob.knd
  obtain ⟨kc, hc⟩ := oc.knd
  have all : toldB names (.tup [a, b, c']) = ((nameB a && nameB b) && (inB names a && hrB c')) := rfl
  rw [all] at q
  repeat' contradiction
  refine notin_od oa hn ?_
  cases e1 : inB names a with
  | false =>
    refine iteT' rfl ?_
    repeat' contradiction
    rw [e1, Bool.false_and, Bool.and_false] at q
    exact d_same q
  | true =>
    refine iteF' rfl ?_
    have ea : nameB a = true := by
      cases a with
      | str x => exact nameB_nme (hn x (of_decide_eq_true e1))
      | _ => cases e1
    rw [e1, ea, Bool.true_and, Bool.true_and] at q
    repeat' contradiction
    rw [h15]
    refine ⟨b, kb, rfl, hb, ob.lname, ?_⟩
    repeat' contradiction
    cases e2 : nameB b with
    | false =>
      refine iteF' rfl ?_
      rw [e2] at q
      exact d_same q
    | true =>
      refine iteT' rfl ?_
      rw [e2] at q
      repeat' contradiction
      rw [h14]
      exact ⟨c', kc, _, _, rfl, hc, d_same q⟩
/-! ### skills -/
def uqI (acc : List Str) (x : Str) : List Str := if x ∈ acc then acc else acc ++ [x]
/-- each once, in the order in which they come first -/
def uq (xs : List Str) : List Str := xs.foldl uqI []
theorem uq_snoc (xs : List Str) (x : Str) : uq (xs ++ [x]) = uqI (uq xs) x := by unfold uq; rw [List.foldl_append]; rfl
theorem uq_nd (xs : List Str) : (uq xs).Nodup ∧ ∀ k, k ∈ uq xs ↔ k ∈ xs := by
  have go : ∀ (xs acc : List Str), acc.Nodup → (xs.foldl uqI acc).Nodup ∧ ∀ k, k ∈ xs.foldl uqI acc ↔ k ∈ acc ∨ k ∈ xs := by
    intro xs
    induction xs with
    | nil => intro acc nd; exact ⟨nd, fun k => ⟨.inl, fun h => h.elim id fun z => (nomatch z)⟩⟩
    | cons x xs ih =>
      intro acc nd
      have nd2 : (uqI acc x).Nodup := by
        unfold uqI
        split
        · exact nd
        · rename_i hx
          rw [List.nodup_append]
          exact ⟨nd, by simp, fun a ha b hb e => hx (by rw [List.mem_singleton.mp hb] at e; rw [← e]; exact ha)⟩
      have m2 : ∀ k, k ∈ uqI acc x ↔ k ∈ acc ∨ k = x := fun k => by
        unfold uqI
        split
        · rename_i hx
          exact ⟨.inl, fun z => z.elim id fun e => e ▸ hx⟩
        · rw [List.mem_append, List.mem_singleton]
      obtain ⟨a, b⟩ := ih (uqI acc x) nd2
      refine ⟨a, fun k => ?_⟩
      show k ∈ xs.foldl uqI (uqI acc x) ↔ _
      rw [b, m2, List.mem_cons, or_assoc]
  obtain ⟨a, b⟩ := go xs [] List.nodup_nil
  exact ⟨a, fun k => by rw [show uq xs = xs.foldl uqI [] from rfl, b]; simp⟩
theorem uq_len (xs : List Str) : (uq xs).length ≤ xs.length := (nd_len (uq_nd xs).1 (uq_nd xs).2).1
def spSkl : MP.Spec := fun ws S Q _ => ∃ A B : List En, ws = [.tup [.lst (A.map eO), .lst (B.map eO)]] ∧ (∀ x ∈ A ++ B, Nme x.2.1) ∧ (A ++ B).length ≤ 1000 ∧ Q (.lst ((uq ((A ++ B).map (·.2.1))).map W.str)) S
theorem ok_skl {Φ : Nat → MP.Spec} {ws : List W} {S : Sto} {Q : WK} {X X0 : XC} (h : spSkl ws S Q X) : wps Φ c6 (startW N6 ws) S (dEnds Q X0) := by
  obtain ⟨A, B, rfl, hn, hl, q⟩ := h
  unfold c6
  show wps Φ _ [some (.tup [.lst (A.map eO), .lst (B.map eO)]), none, none] S (dEnds Q X0)
  rw [List.length_append] at hl
  repeat' contradiction
  refine mk_t fun p hp => ?_
  repeat' contradiction
  refine b_cat rfl rfl (le_line (by rw [List.length_map, List.length_map]; omega)) ?_
  repeat' contradiction
  refine ⟨_, rfl, ?_⟩
  rw [← List.map_append]
  have hl : (A ++ B).length ≤ 1000 := by rw [List.length_append]; omega
  generalize A ++ B = es at hn hl q ⊢
  refine for_map (fun i ρ S' => ∃ r2, ρ = [some (.tup [.lst (A.map eO), .lst (B.map eO)]), some (.ref p), r2] ∧ S' = sup S p (.lst ((uq ((es.take i).map (·.2.1))).map W.str))) ⟨_, rfl, rfl⟩ (fun _ _ _ _ => rfl) (fun i x ρ S' hx h K hK => ?_) (fun ρ S' h => ?_)
  · obtain ⟨r2, rfl, rfl⟩ := h
    have hxm := List.mem_of_getElem? hx
    have tk : (es.take (i + 1)).map (fun x : En => x.2.1) = (es.take i).map (fun x : En => x.2.1) ++ [x.2.1] := by rw [List.take_add_one, hx, List.map_append]; rfl
    have hi : i < es.length := (List.getElem?_eq_some_iff.mp hx).1
    have lt : (uq ((es.take i).map (fun x : En => x.2.1))).length ≤ 1000 := by
      have := uq_len ((es.take i).map (fun x : En => x.2.1))
      rw [List.length_map, List.length_take] at this
      omega
    have nm : ∀ y ∈ uq ((es.take i).map (fun x : En => x.2.1)), Nme y := fun y hy => by
      obtain ⟨z, hz, rfl⟩ := List.mem_map.mp (((uq_nd _).2 y).mp hy)
      exact hn z (List.mem_of_mem_take hz)
    rw [tk, uq_snoc] at hK
    generalize uq ((es.take i).map (fun x : En => x.2.1)) = acc at hK lt nm ⊢
    repeat' contradiction
    refine notin_lp (n := 0) (m := 0) (rdl_c sup_same) (.str 0 _ (hn x hxm).can) (pln_names nm) fun r hr => ?_
    rw [mem_str] at hr
    cases r with
    | false =>
      refine iteF' rfl ?_
      have hin : x.2.1 ∈ acc := Classical.byContradiction fun z => Bool.noConfusion (hr.mpr z)
      repeat' contradiction
      have e : uqI acc x.2.1 = acc := by unfold uqI; rw [if_pos hin]
      rw [e] at hK
      exact hK _ _ ⟨_, rfl, rfl⟩
    | true =>
      refine iteT' rfl ?_
      have hin := hr.mp rfl
      repeat' contradiction
      refine m_rcv rfl sup_same ?_
      repeat' contradiction
      refine m_app sup_same (lt_line (by rw [List.length_map]; omega)) ?_
      repeat' contradiction
      have e : uqI acc x.2.1 = acc ++ [x.2.1] := by unfold uqI; rw [if_neg hin]
      rw [e] at hK
      refine hK _ _ ⟨_, rfl, ?_⟩
      rw [sup_sup, List.map_append]
      rfl
  · obtain ⟨r2, rfl, rfl⟩ := h
    rw [List.take_length]
    repeat' contradiction
    refine s_gf1 sup_same ?_
    repeat' contradiction
    rw [sdel_sup hp]
    exact d_same q
theorem ok_lskl {Φ : Nat → MP.Spec} {ws : List W} {S : Sto} {Q : WK} {X X0 : XC} (h : spSkl ws S Q X) : wps Φ c24 (startW N24 ws) S (dEnds Q X0) := ok_skl h
end K01

set_option Elab.async false
set_option linter.all false
set_option maxRecDepth 100000
set_option maxHeartbeats 4000000
/-! K01f: days, by the program and by the law. -/
namespace K01
open PySem PySem.Spec PyProof.Rows L2 MP NM DK LF LG LH EX EY EZ ST LK
local macro_rules
  | `(tactic| contradiction) => `(tactic| first | with_reducible refine d_in ?_ | with_reducible refine s_nil ?_ | with_reducible refine s_seq ?_ | with_reducible refine s_asg ?_ | with_reducible refine s_par ?_ | with_reducible refine s_expr ?_ | with_reducible refine s_ret ?_ | with_reducible refine s_retN ?_ | with_reducible refine s_iff ?_ | with_reducible refine s_fr ?_ | with_reducible refine s_cont ?_ | with_reducible refine s_brk ?_ | with_reducible refine s_pass ?_ | with_reducible refine s_augS ?_ | with_reducible refine e_int ?_ | with_reducible refine e_str ?_ | with_reducible refine e_bool ?_ | with_reducible refine e_none ?_ | with_reducible refine e_bin ?_ | with_reducible refine e_neg ?_ | with_reducible refine e_nt ?_ | with_reducible refine e_cmp ?_ | with_reducible refine e_chain ?_ | with_reducible refine e_an ?_ | with_reducible refine e_or ?_ | with_reducible refine an_1 ?_ | with_reducible refine an_2 ?_ | with_reducible refine or_1 ?_ | with_reducible refine or_2 ?_ | with_reducible refine e_ife ?_ | with_reducible refine e_call ?_ | with_reducible refine e_blt ?_ | with_reducible refine e_mth ?_ | with_reducible refine e_idx ?_ | with_reducible refine e_slc ?_ | with_reducible refine e_rev ?_ | with_reducible refine e_tup ?_ | with_reducible refine e_lst ?_ | with_reducible refine e_dnew ?_ | with_reducible refine e_dct ?_ | with_reducible refine e_isi ?_ | with_reducible refine e_lrg ?_ | with_reducible refine e_lzip ?_ | with_reducible refine e_stp ?_ | with_reducible refine e_sset ?_ | with_reducible refine es_n ?_ | with_reducible refine es_c ?_ | with_reducible refine o_nil ?_ | with_reducible refine o_var ?_ | with_reducible refine o_cst ?_ | with_reducible refine o_bin ?_ | with_reducible refine o_neg ?_ | with_reducible refine o_blt ?_ | with_reducible refine o_call ?_ | with_reducible refine ik ?_ | with_reducible refine ng ?_ | with_reducible refine tq_bl ?_ | with_reducible refine tq_int ?_ | with_reducible refine tq_non ?_ | with_reducible refine tq_lst ?_ | with_reducible refine tq_tup ?_ | with_reducible refine t_var ?_ | with_reducible refine t_call ?_ | with_reducible refine t_blt ?_ | with_reducible refine t_mth ?_ | with_reducible refine t_idx ?_ | with_reducible refine t_isi ?_ | with_reducible refine t_cst ?_ | with_reducible refine t_nt ?_ | with_reducible refine t_cmp ?_ | with_reducible refine t_chain ?_ | with_reducible refine t_an ?_ | with_reducible refine t_or ?_ | with_reducible refine ant_1 ?_ | with_reducible refine ant_2 ?_ | with_reducible refine ort_1 ?_ | with_reducible refine ort_2 ?_ | with_reducible refine tr_bl ?_ | with_reducible refine tr_int ?_ | with_reducible refine tr_lst ?_ | with_reducible refine tr_non ?_ | with_reducible refine c_nil ?_ | with_reducible refine c_one ?_ | with_reducible refine g_sub ?_ | with_reducible refine gs_n ?_ | with_reducible refine gs_c ?_ | with_reducible refine i_seq ?_ | with_reducible refine i_rng1 ?_ | with_reducible refine i_rng2 ?_ | with_reducible refine i_rng3 ?_ | with_reducible refine i_zip ?_ | with_reducible refine i_enm ?_ | with_reducible refine b_add ?_ | with_reducible refine b_sub ?_ | with_reducible refine c_lt ?_ | with_reducible refine c_le ?_ | with_reducible refine c_gt ?_ | with_reducible refine c_ge ?_ | with_reducible refine mk_f ?_ | with_reducible refine ref_and ?_ | with_reducible refine u_set ?_ | with_reducible refine eq_i ?_ | with_reducible refine ne_i ?_ | with_reducible refine eq_b ?_ | with_reducible refine ne_b ?_ | with_reducible refine is_b ?_ | with_reducible refine isn_b ?_ | with_reducible refine is_n ?_ | with_reducible refine isn_n ?_ | with_reducible refine e_v0 ?_ | with_reducible refine g_v0 ?_ | with_reducible refine s_u0 ?_ | with_reducible refine e_v1 ?_ | with_reducible refine g_v1 ?_ | with_reducible refine s_u1 ?_ | with_reducible refine e_v2 ?_ | with_reducible refine g_v2 ?_ | with_reducible refine s_u2 ?_ | with_reducible refine e_v3 ?_ | with_reducible refine g_v3 ?_ | with_reducible refine s_u3 ?_ | with_reducible refine e_v4 ?_ | with_reducible refine g_v4 ?_ | with_reducible refine s_u4 ?_ | with_reducible refine e_v5 ?_ | with_reducible refine g_v5 ?_ | with_reducible refine s_u5 ?_ | with_reducible refine e_v6 ?_ | with_reducible refine g_v6 ?_ | with_reducible refine s_u6 ?_ | with_reducible refine e_v7 ?_ | with_reducible refine g_v7 ?_ | with_reducible refine s_u7 ?_ | with_reducible refine e_v8 ?_ | with_reducible refine g_v8 ?_ | with_reducible refine s_u8 ?_ | with_reducible refine e_v9 ?_ | with_reducible refine g_v9 ?_ | with_reducible refine s_u9 ?_ | with_reducible refine e_v10 ?_ | with_reducible refine g_v10 ?_ | with_reducible refine s_u10 ?_ | with_reducible refine e_v11 ?_ | with_reducible refine g_v11 ?_ | with_reducible refine s_u11 ?_ | with_reducible refine e_v12 ?_ | with_reducible refine g_v12 ?_ | with_reducible refine s_u12 ?_ | with_reducible refine e_v13 ?_ | with_reducible refine g_v13 ?_ | with_reducible refine s_u13 ?_ | with_reducible refine e_v14 ?_ | with_reducible refine g_v14 ?_ | with_reducible refine s_u14 ?_ | with_reducible refine e_v15 ?_ | with_reducible refine g_v15 ?_ | with_reducible refine s_u15 ?_ | with_reducible refine e_v16 ?_ | with_reducible refine g_v16 ?_ | with_reducible refine s_u16 ?_ | with_reducible refine e_v17 ?_ | with_reducible refine g_v17 ?_ | with_reducible refine s_u17 ?_ | with_reducible refine e_v18 ?_ | with_reducible refine g_v18 ?_ | with_reducible refine s_u18 ?_ | with_reducible refine e_v19 ?_ | with_reducible refine g_v19 ?_ | with_reducible refine s_u19 ?_ | ((with_reducible refine e_lc' (ρ' := ?rr) ?hw ?_); (case hw => (dsimp only [wipeW, List.map, List.set]; exact rfl))) | ((with_reducible refine g_tup ?hl ?_); (case hl => exact rfl)) | with_reducible refine b_mod (by first | decide | omega) ?_ | ((with_reducible refine b_pow (pow_ok (by decide) (by decide) (by decide)) ?_); simp only [Int.reduceToNat, Int.reducePow]) | with_reducible refine le_and (by simp only [List.length_cons, List.length_nil]; decide) ?_ | with_reducible refine l_intB ?_ | with_reducible refine l_intI ?_ | with_reducible refine sl_f ?_ | (refine l_len (by exact rfl) (q := ?_); skip) | (refine l_list (by exact rfl) ?_; skip) | (refine ix_t (by exact rfl) ?_; skip))

def prS : W → Str × Str
  | .tup (.str x :: .str y :: _) => (x, y)
  | _ => (Str.empty, Str.empty)
def dayB (names : List Str) : W → Bool
  | .tup [.lst a, .lst b] => decide ((a ++ b).length ≤ 40) && (a ++ b).all (toldB names) && (decide (((a ++ b).map prS).Nodup) && decide ((uq ((a ++ b).map fun w => (prS w).2)).length ≤ 12))
  | _ => false
theorem told_tup {names : List Str} {w : W} (h : toldB names w = true) : ∃ x : En, w = eO x ∧ Nme x.1 ∧ Nme x.2.1 := by
  unfold toldB at h
  split at h
  · rename_i a b c
    rw [Bool.and_eq_true, Bool.and_eq_true, Bool.and_eq_true] at h
    obtain ⟨x, rfl, hx⟩ := nameB_str h.1.1
    obtain ⟨y, rfl, hy⟩ := nameB_str h.1.2
    obtain ⟨i, rfl, _⟩ := whole_int h.2.2
    exact ⟨(x, y, i), rfl, hx, hy⟩
  · cases h
theorem told_all {names : List Str} : ∀ {us : List W}, us.all (toldB names) = true → ∃ es : List En, us = es.map eO ∧ ∀ x ∈ es, Nme x.1 ∧ Nme x.2.1
  | [], _ => ⟨[], rfl, fun _ h => nomatch h⟩
  | w :: us, h => by
    rw [List.all_cons, Bool.and_eq_true] at h
    obtain ⟨x, rfl, hx⟩ := told_tup h.1
    obtain ⟨es, rfl, hn⟩ := told_all h.2
    refine ⟨x :: es, rfl, fun y hy => ?_⟩
    rcases List.mem_cons.mp hy with rfl | hy
    · exact hx
    · exact hn y hy
theorem tupsW_2 : ∀ es : List En, tupsW (es.map fun x => W.tup [.str x.1, .str x.2.1]) = some (es.map fun x => [(.inr x.1 : Key), .inr x.2.1])
  | [] => rfl
  | x :: es => by
    show ((keysW [.str x.1, .str x.2.1]).bind fun k => (tupsW (es.map fun x => W.tup [.str x.1, .str x.2.1])).map (k :: ·)) = _
    rw [tupsW_2 es]; rfl
theorem nd_pairs (es : List En) : (es.map fun x => [(.inr x.1 : Key), .inr x.2.1]).Nodup ↔ (es.map fun x => (x.1, x.2.1)).Nodup := by
  have e : (es.map fun x => [(.inr x.1 : Key), .inr x.2.1]) = (es.map fun x => (x.1, x.2.1)).map fun p => [(.inr p.1 : Key), .inr p.2] := by rw [List.map_map]; rfl
  rw [e]
  constructor
  · intro h
    rw [List.nodup_iff_pairwise_ne, List.pairwise_map] at h
    rw [List.nodup_iff_pairwise_ne]
    exact h.imp fun z e => z (by rw [e])
  · intro h
    exact nodup_map h fun x _ y _ e => k2_inj e
theorem day_eq {names : List Str} {A B : List En} (h : ((A ++ B).map eO).all (toldB names) = true) (hl : (A ++ B).length ≤ 40) :
    dayB names (.tup [.lst (A.map eO), .lst (B.map eO)]) = (decide (((A ++ B).map fun x => (x.1, x.2.1)).Nodup) && decide ((uq ((A ++ B).map (·.2.1))).length ≤ 12)) := by
  show (decide ((A.map eO ++ B.map eO).length ≤ 40) && (A.map eO ++ B.map eO).all (toldB names) && (decide (((A.map eO ++ B.map eO).map prS).Nodup) && decide ((uq ((A.map eO ++ B.map eO).map fun w => (prS w).2)).length ≤ 12))) = _
  rw [← List.map_append, h, List.length_map, decide_eq_true hl, List.map_map, List.map_map]
  rfl
/-- what is no pair of lists -/
theorem day_row {names : List Str} {w : W} (h : rowB w 2 = false) : dayB names w = false := by
  cases w with
  | tup us =>
    have := of_decide_eq_false (show decide ((us.length : Int) = 2) = false from h)
    unfold dayB
    split
    · rename_i e
      injection e with e
      rw [e] at this
      exact absurd rfl this
    · rfl
  | _ => rfl
theorem row2 {w : W} (h : rowB w 2 = true) : ∃ a b, w = .tup [a, b] := by
  cases w with
  | tup us =>
    have := of_decide_eq_true (show decide ((us.length : Int) = 2) = true from h)
    obtain ⟨a, b, rfl⟩ := two' (us := us) (by omega)
    exact ⟨a, b, rfl⟩
  | _ => cases h
theorem Dy.at2 {S : Sto} {a b : W} (h : Dy S (.tup [a, b])) : Ls S a ∧ Ls S b := by
  cases h with
  | tup ws h => exact ⟨h a (by simp), h b (by simp)⟩
theorem Ls.knd_lst {S : Sto} {w : W} {k : Knd} (h : Ls S w) (hk : kndW S w = some k) : (k = .lst ∧ ∃ us, w = .lst us ∧ (∀ w ∈ us, Rw S w) ∧ us.length ≤ 100) ∨ (k ≠ .lst ∧ ∀ us, w ≠ .lst us) := by
  cases h with
  | lst us h l => cases hk; exact .inl ⟨rfl, us, rfl, h, l⟩
  | tup us h l => cases hk; exact .inr ⟨by decide, fun _ e => nomatch e⟩
  | non => cases hk; exact .inr ⟨by decide, fun _ e => nomatch e⟩
theorem day_l {names : List Str} {a b : W} (h : (∀ us, a ≠ .lst us) ∨ ∀ us, b ≠ .lst us) : dayB names (.tup [a, b]) = false := by
  unfold dayB
  split
  · rename_i e
    injection e with e
    injection e with e1 e
    injection e with e2 _
    rcases h with h | h
    · exact absurd e1 (h _)
    · exact absurd e2 (h _)
  · rfl
def spNeedD : MP.Spec := fun ws S Q X => ∃ (town : List Nb) (w : W), ws = [.lst (town.map eN), w] ∧ TownOk town ∧ town.length ≤ 12 ∧ Dy S w ∧ (dayB (town.map (·.1)) w = true → Q .non S) ∧ (dayB (town.map (·.1)) w = false → X ⟨"BadDay", none⟩ S) ∧ ∀ e S', X e S' → e.nm = none
theorem ok_needD {Φ : Nat → MP.Spec} (h2 : Φ 2 = spIsRow) (h5 : Φ 5 = spTold) (h6 : Φ 6 = spSkl) {ws : List W} {S : Sto} {Q : WK} {X : XC} (h : spNeedD ws S Q X) : wps Φ c7 (startW N7 ws) S (dEnds Q X) := by
  obtain ⟨town, w, rfl, hT, ht, hw, q1, q2, _⟩ := h
  unfold c7
  show wps Φ _ [some (.lst (town.map eN)), some w, none, none, none] S (dEnds Q X)
  obtain ⟨k, hk⟩ := hw.knd
  have bad : dayB (town.map (·.1)) w = false → dXc X ⟨"BadDay", none⟩ S := fun h => ⟨S, fewer_rfl, q2 h⟩
  repeat' contradiction
  rw [h2]
  refine ⟨w, k, 2, rfl, hk, ?_⟩
  repeat' contradiction
  cases e : rowB w 2 with
  | false =>
    refine iteT' rfl ?_
    exact iteT' rfl (bad (day_row e))
  | true =>
    obtain ⟨a, b, rfl⟩ := row2 e
    obtain ⟨la, lb⟩ := hw.at2
    obtain ⟨ka, ha⟩ := la.knd
    obtain ⟨kb, hb⟩ := lb.knd
    refine iteF' rfl ?_
    repeat' contradiction
    refine ⟨ka, ha, ?_⟩
    repeat' contradiction
    rcases (la.knd_lst ha).symm with ⟨nk, na⟩ | ⟨rfl, us, rfl, ru, lu⟩
    · refine iteT' (by rw [sub_lst, decide_eq_false nk]; rfl) ?_
      exact iteT' rfl (bad (day_l (.inl na)))
    refine iteF' rfl ?_
    repeat' contradiction
    refine ⟨kb, hb, ?_⟩
    repeat' contradiction
    rcases (lb.knd_lst hb).symm with ⟨nk, na⟩ | ⟨rfl, vs, rfl, rv, lv⟩
    · exact iteT' (by rw [sub_lst, decide_eq_false nk]; rfl) (bad (day_l (.inr na)))
    refine iteF' rfl ?_
    repeat' contradiction
    refine b_cat rfl rfl (le_line (by omega)) ?_
    repeat' contradiction
    refine ⟨_, rfl, ?_⟩
    refine lc_mp (enc := eN) (xs := town) (fun x => .str x.1) rfl (le_line (by omega)) (fun x hx K hK => ?_) ?_
    · repeat' contradiction
      exact hK
    repeat' contradiction
    have e1 : town.map (fun x => W.str x.1) = (town.map (·.1)).map W.str := by rw [List.map_map]; rfl
    rw [e1]
    have hn : ∀ x ∈ town.map (·.1), Nme x := fun x hx => by
      obtain ⟨y, hy, rfl⟩ := List.mem_map.mp hx
      exact hT.nm y hy
    have rall : ∀ w ∈ us ++ vs, Rw S w := fun w hw => (List.mem_append.mp hw).elim (ru w) (rv w)
    have lall : (us ++ vs).length ≤ 200 := by rw [List.length_append]; omega
    generalize town.map (·.1) = names at bad q1 q2 hn ⊢
    refine e_glbI ?_
    repeat' contradiction
    refine LD.ite_d (fun c1 => ?_) (fun c1 => ?_)
    · refine iteT' rfl (bad ?_)
      show (decide ((us ++ vs).length ≤ 40) && _ && _) = false
      rw [decide_eq_false (by omega)]; rfl
    repeat' contradiction
    refine ⟨_, rfl, ?_⟩
    refine lc_mi (fun w => .bl (toldB names w)) rfl (le_line (by omega)) (fun x hx K hK => ?_) ?_
    · repeat' contradiction
      rw [h5]
      exact ⟨x, names, rfl, rall x hx, hn, hK⟩
    repeat' contradiction
    refine l_all (ns := (us ++ vs).map (toldB names)) (by rw [List.map_map]; rfl) ?_
    repeat' contradiction
    have e2 : ((us ++ vs).map (toldB names)).all id = (us ++ vs).all (toldB names) := by rw [List.all_map]; rfl
    rw [e2]
    cases e3 : (us ++ vs).all (toldB names) with
    | false =>
      refine iteT' rfl (bad ?_)
      show (_ && (us ++ vs).all (toldB names) && _) = false
      rw [e3, Bool.and_false, Bool.false_and]
    | true =>
      refine iteF' rfl ?_
      repeat' contradiction
      have e4 := e3
      rw [List.all_append, Bool.and_eq_true] at e4
      obtain ⟨A, rfl, nA⟩ := told_all e4.1
      obtain ⟨B, rfl, nB⟩ := told_all e4.2
      rw [← List.map_append] at e3 c1 lall ⊢
      rw [List.length_map] at c1 lall
      have nAB : ∀ x ∈ A ++ B, Nme x.1 ∧ Nme x.2.1 := fun x hx => (List.mem_append.mp hx).elim (nA x) (nB x)
      have de := day_eq e3 (by omega)
      refine e_lset ?_
      repeat' contradiction
      refine ⟨_, rfl, ?_⟩
      refine lc_mp (enc := eO) (xs := A ++ B) (fun x => .tup [.str x.1, .str x.2.1]) rfl (le_line (by omega)) (fun x hx K hK => ?_) ?_
      · repeat' contradiction
        refine sl_t ?_
        exact hK
      repeat' contradiction
      refine l_set rfl (tupsW_2 _) (by rw [List.length_map]; omega) fun n n1 n2 => ?_
      rw [nd_pairs, List.length_map] at n2
      rw [List.length_map] at n1
      repeat' contradiction
      rw [List.length_map]
      refine LD.ite_d (fun c2 => ?_) (fun c2 => ?_)
      · refine iteT' rfl (bad ?_)
        rw [de, decide_eq_false fun z => ?_, Bool.false_and]
        have := n2.mpr z
        omega
      repeat' contradiction
      rw [h6]
      refine ⟨A, B, rfl, fun x hx => (nAB x hx).2, by omega, ?_⟩
      repeat' contradiction
      refine e_glbI ?_
      repeat' contradiction
      rw [List.length_map]
      have nd := n2.mp (by omega)
      rw [decide_eq_true nd, Bool.true_and] at de
      refine LD.ite_d (fun c3 => ?_) (fun c3 => ?_)
      · refine bad ?_
        rw [de, decide_eq_false]
        omega
      · refine ⟨S, fewer_rfl, q1 ?_⟩
        rw [de, decide_eq_true]
        omega
def spGoodD : MP.Spec := fun ws S Q _ => ∃ (town : List Nb) (w : W), ws = [.lst (town.map eN), w] ∧ TownOk town ∧ town.length ≤ 12 ∧ Dy S w ∧ Q (.bl (dayB (town.map (·.1)) w)) S
def lsB : W → Bool
  | .lst _ => true
  | _ => false
theorem ok_goodD {Φ : Nat → MP.Spec} (h18 : Φ 18 = spTold) {ws : List W} {S : Sto} {Q : WK} {X X0 : XC} (h : spGoodD ws S Q X) : wps Φ c19 (startW N19 ws) S (dEnds Q X0) := by
  obtain ⟨town, w, rfl, hT, ht, hw, q⟩ := h
  unfold c19
  show wps Φ _ [some (.lst (town.map eN)), some w, none, none, none, none] S (dEnds Q X0)
  obtain ⟨k, hk⟩ := hw.knd
  have bad : dayB (town.map (·.1)) w = false → dRt Q (.bl false) S := fun h => d_same (by rw [← h]; exact q)
  repeat' contradiction
  refine ⟨k, hk, ?_⟩
  repeat' contradiction
  by_cases c : ¬ k = .tup
  · refine iteT' (by rw [sub_tup, decide_eq_false c]; rfl) ?_
    refine iteT' rfl ?_
    repeat' contradiction
    refine bad ?_
    cases w with
    | tup us => cases hk; exact absurd rfl c
    | _ => rfl
  obtain rfl := Decidable.not_not.mp c
  obtain ⟨us, rfl⟩ := knd_tup hk
  refine iteF' rfl ?_
  repeat' contradiction
  refine LD.ite_d (fun cn => ?_) (fun cn => ?_)
  · refine iteT' rfl ?_
    repeat' contradiction
    refine bad (day_row ?_)
    show decide ((us.length : Int) = 2) = false
    exact decide_eq_false cn
  obtain ⟨a, b, rfl⟩ := two' (us := us) (by omega)
  obtain ⟨la, lb⟩ := hw.at2
  obtain ⟨ka, ha⟩ := la.knd
  obtain ⟨kb, hb⟩ := lb.knd
  repeat' contradiction
  refine ⟨[a, b], rfl, ?_⟩
  refine lc_mi (fun w => .bl (lsB w)) rfl (le_line (by simp)) (fun x hx K hK => ?_) ?_
  · repeat' contradiction
    have lx : Ls S x := by
      simp only [List.mem_cons, List.not_mem_nil, or_false] at hx
      rcases hx with rfl | rfl
      · exact la
      · exact lb
    obtain ⟨kx, hkx⟩ := lx.knd
    refine ⟨kx, hkx, ?_⟩
    have : subK kx .lst = lsB x := by
      rw [sub_lst]
      rcases lx.knd_lst hkx with ⟨rfl, us, rfl, _⟩ | ⟨nk, na⟩
      · rfl
      · rw [decide_eq_false nk]
        cases x with
        | lst us => exact absurd rfl (na us)
        | _ => rfl
    rw [this]; exact hK
  repeat' contradiction
  have e0 : [a, b].map (fun w => W.bl (lsB w)) = ([a, b].map lsB).map W.bl := rfl
  rw [e0]
  refine in_bls fun r hr => ?_
  rw [all_in] at hr
  rcases (la.knd_lst ha).symm with ⟨nk, na⟩ | ⟨rfl, us, rfl, ru, lu⟩
  · refine iteT' (hr.mpr ?_) ?_
    · have : lsB a = false := by
        cases a with
        | lst us => exact absurd rfl (na us)
        | _ => rfl
      rw [List.all_cons, this]; rfl
    · repeat' contradiction
      exact bad (day_l (.inl na))
  rcases (lb.knd_lst hb).symm with ⟨nk, na⟩ | ⟨rfl, vs, rfl, rv, lv⟩
  · refine iteT' (hr.mpr ?_) ?_
    · have : lsB b = false := by
        cases b with
        | lst us => exact absurd rfl (na us)
        | _ => rfl
      rw [List.all_cons, List.all_cons, this, Bool.false_and, Bool.and_false]
    · repeat' contradiction
      exact bad (day_l (.inr na))
  refine iteF' (b_f hr (by rw [List.all_cons, List.all_cons]; exact Bool.noConfusion)) ?_
  repeat' contradiction
  refine b_cat rfl rfl (le_line (by omega)) ?_
  repeat' contradiction
  refine ⟨_, rfl, ?_⟩
  refine lc_mp (enc := eN) (xs := town) (fun x => .str x.1) rfl (le_line (by omega)) (fun x hx K hK => ?_) ?_
  · repeat' contradiction
    exact hK
  repeat' contradiction
  have e1 : town.map (fun x => W.str x.1) = (town.map (·.1)).map W.str := by rw [List.map_map]; rfl
  rw [e1]
  have hn : ∀ x ∈ town.map (·.1), Nme x := fun x hx => by
    obtain ⟨y, hy, rfl⟩ := List.mem_map.mp hx
    exact hT.nm y hy
  have rall : ∀ w ∈ us ++ vs, Rw S w := fun w hw => (List.mem_append.mp hw).elim (ru w) (rv w)
  have lall : (us ++ vs).length ≤ 200 := by rw [List.length_append]; omega
  generalize town.map (·.1) = names at bad q hn ⊢
  refine LD.ite_d (fun c1 => ?_) (fun c1 => ?_)
  · refine iteT' rfl ?_
    repeat' contradiction
    refine bad ?_
    show (decide ((us ++ vs).length ≤ 40) && _ && _) = false
    rw [decide_eq_false (by omega)]; rfl
  repeat' contradiction
  refine ⟨_, rfl, ?_⟩
  refine lc_mi (fun w => .bl (toldB names w)) rfl (le_line (by omega)) (fun x hx K hK => ?_) ?_
  · repeat' contradiction
    rw [h18]
    exact ⟨x, names, rfl, rall x hx, hn, hK⟩
  repeat' contradiction
  have e2 : (us ++ vs).map (fun w => W.bl (toldB names w)) = ((us ++ vs).map (toldB names)).map W.bl := by rw [List.map_map]; rfl
  rw [e2]
  refine in_bls fun r2 hr2 => ?_
  rw [all_in] at hr2
  cases e3 : (us ++ vs).all (toldB names) with
  | false =>
    refine iteT' (hr2.mpr e3) ?_
    repeat' contradiction
    refine bad ?_
    show (_ && (us ++ vs).all (toldB names) && _) = false
    rw [e3, Bool.and_false, Bool.false_and]
  | true =>
    refine iteF' (b_f hr2 (by rw [e3]; exact Bool.noConfusion)) ?_
    repeat' contradiction
    have e4 := e3
    rw [List.all_append, Bool.and_eq_true] at e4
    obtain ⟨A, rfl, nA⟩ := told_all e4.1
    obtain ⟨B, rfl, nB⟩ := told_all e4.2
    rw [← List.map_append] at e3 c1 lall ⊢
    rw [List.length_map] at c1 lall
    have nAB : ∀ x ∈ A ++ B, Nme x.1 ∧ Nme x.2.1 := fun x hx => (List.mem_append.mp hx).elim (nA x) (nB x)
    have de := day_eq e3 (by omega)
    rw [de] at q
    refine ⟨_, rfl, ?_⟩
    refine lc_mp (enc := eO) (xs := A ++ B) (fun x => .tup [.str x.1, .str x.2.1]) rfl (le_line (by omega)) (fun x hx K hK => ?_) ?_
    · repeat' contradiction
      refine sl_t ?_
      exact hK
    repeat' contradiction
    refine e_lset ?_
    repeat' contradiction
    refine l_set rfl (tupsW_2 _) (by rw [List.length_map]; omega) fun n n1 n2 => ?_
    rw [nd_pairs, List.length_map] at n2
    rw [List.length_map] at n1
    repeat' contradiction
    rw [List.length_map]
    refine LD.ite_d (fun c2 => ?_) (fun c2 => ?_)
    · have nd := n2.mp (by omega)
      rw [decide_eq_true nd, Bool.true_and] at q
      repeat' contradiction
      refine e_lsts ?_
      repeat' contradiction
      refine ⟨_, rfl, ?_⟩
      refine lc_mp (enc := eO) (xs := A ++ B) (fun x => .str x.2.1) rfl (le_line (by omega)) (fun x hx K hK => ?_) ?_
      · repeat' contradiction
        exact hK
      repeat' contradiction
      refine ⟨_, (A ++ B).map (·.2.1), rfl, strs_map' _ _, by rw [List.length_map]; omega, fun L ndL hL => ?_⟩
      repeat' contradiction
      refine d_same ?_
      have u := uq_nd ((A ++ B).map (·.2.1))
      have eL : L.length = (uq ((A ++ B).map (·.2.1))).length := (nd_len ndL (m := uq ((A ++ B).map (·.2.1))) fun k => by rw [hL, u.2]).2.mpr u.1
      have e5 : decide ((L.length : Int) < 13) = decide ((uq ((A ++ B).map (·.2.1))).length ≤ 12) := by
        rw [eL, Bool.eq_iff_iff, decide_eq_true_iff, decide_eq_true_iff]
        omega
      rw [e5]; exact q
    · have nd : ¬ ((A ++ B).map fun x => (x.1, x.2.1)).Nodup := fun z => c2 (by have := n2.mpr z; omega)
      rw [decide_eq_false nd, Bool.false_and] at q
      rw [decide_eq_false c2]
      exact d_same q
end K01

set_option Elab.async false
set_option linter.all false
set_option maxRecDepth 100000
set_option maxHeartbeats 4000000
/-! K01h: odd things, changed rows, bent lists. -/
namespace K01
open PySem PySem.Spec PyProof.Rows L2 MP NM DK LF LG LH EX EY EZ ST LK
local macro_rules
  | `(tactic| contradiction) => `(tactic| first | with_reducible refine d_in ?_ | with_reducible refine s_nil ?_ | with_reducible refine s_seq ?_ | with_reducible refine s_asg ?_ | with_reducible refine s_par ?_ | with_reducible refine s_expr ?_ | with_reducible refine s_ret ?_ | with_reducible refine s_retN ?_ | with_reducible refine s_iff ?_ | with_reducible refine s_fr ?_ | with_reducible refine s_cont ?_ | with_reducible refine s_brk ?_ | with_reducible refine s_pass ?_ | with_reducible refine s_augS ?_ | with_reducible refine e_int ?_ | with_reducible refine e_str ?_ | with_reducible refine e_bool ?_ | with_reducible refine e_none ?_ | with_reducible refine e_bin ?_ | with_reducible refine e_neg ?_ | with_reducible refine e_nt ?_ | with_reducible refine e_cmp ?_ | with_reducible refine e_chain ?_ | with_reducible refine e_an ?_ | with_reducible refine e_or ?_ | with_reducible refine an_1 ?_ | with_reducible refine an_2 ?_ | with_reducible refine or_1 ?_ | with_reducible refine or_2 ?_ | with_reducible refine e_ife ?_ | with_reducible refine e_call ?_ | with_reducible refine e_blt ?_ | with_reducible refine e_mth ?_ | with_reducible refine e_idx ?_ | with_reducible refine e_slc ?_ | with_reducible refine e_rev ?_ | with_reducible refine e_tup ?_ | with_reducible refine e_lst ?_ | with_reducible refine e_dnew ?_ | with_reducible refine e_dct ?_ | with_reducible refine e_isi ?_ | with_reducible refine e_lrg ?_ | with_reducible refine e_lzip ?_ | with_reducible refine e_stp ?_ | with_reducible refine e_sset ?_ | with_reducible refine es_n ?_ | with_reducible refine es_c ?_ | with_reducible refine o_nil ?_ | with_reducible refine o_var ?_ | with_reducible refine o_cst ?_ | with_reducible refine o_bin ?_ | with_reducible refine o_neg ?_ | with_reducible refine o_blt ?_ | with_reducible refine o_call ?_ | with_reducible refine ik ?_ | with_reducible refine ng ?_ | with_reducible refine tq_bl ?_ | with_reducible refine tq_int ?_ | with_reducible refine tq_non ?_ | with_reducible refine tq_lst ?_ | with_reducible refine tq_tup ?_ | with_reducible refine t_var ?_ | with_reducible refine t_call ?_ | with_reducible refine t_blt ?_ | with_reducible refine t_mth ?_ | with_reducible refine t_idx ?_ | with_reducible refine t_isi ?_ | with_reducible refine t_cst ?_ | with_reducible refine t_nt ?_ | with_reducible refine t_cmp ?_ | with_reducible refine t_chain ?_ | with_reducible refine t_an ?_ | with_reducible refine t_or ?_ | with_reducible refine ant_1 ?_ | with_reducible refine ant_2 ?_ | with_reducible refine ort_1 ?_ | with_reducible refine ort_2 ?_ | with_reducible refine tr_bl ?_ | with_reducible refine tr_int ?_ | with_reducible refine tr_lst ?_ | with_reducible refine tr_non ?_ | with_reducible refine c_nil ?_ | with_reducible refine c_one ?_ | with_reducible refine g_sub ?_ | with_reducible refine gs_n ?_ | with_reducible refine gs_c ?_ | with_reducible refine i_seq ?_ | with_reducible refine i_rng1 ?_ | with_reducible refine i_rng2 ?_ | with_reducible refine i_rng3 ?_ | with_reducible refine i_zip ?_ | with_reducible refine i_enm ?_ | with_reducible refine b_add ?_ | with_reducible refine b_sub ?_ | with_reducible refine c_lt ?_ | with_reducible refine c_le ?_ | with_reducible refine c_gt ?_ | with_reducible refine c_ge ?_ | with_reducible refine mk_f ?_ | with_reducible refine ref_and ?_ | with_reducible refine u_set ?_ | with_reducible refine eq_i ?_ | with_reducible refine ne_i ?_ | with_reducible refine eq_b ?_ | with_reducible refine ne_b ?_ | with_reducible refine is_b ?_ | with_reducible refine isn_b ?_ | with_reducible refine is_n ?_ | with_reducible refine isn_n ?_ | with_reducible refine e_v0 ?_ | with_reducible refine g_v0 ?_ | with_reducible refine s_u0 ?_ | with_reducible refine e_v1 ?_ | with_reducible refine g_v1 ?_ | with_reducible refine s_u1 ?_ | with_reducible refine e_v2 ?_ | with_reducible refine g_v2 ?_ | with_reducible refine s_u2 ?_ | with_reducible refine e_v3 ?_ | with_reducible refine g_v3 ?_ | with_reducible refine s_u3 ?_ | with_reducible refine e_v4 ?_ | with_reducible refine g_v4 ?_ | with_reducible refine s_u4 ?_ | with_reducible refine e_v5 ?_ | with_reducible refine g_v5 ?_ | with_reducible refine s_u5 ?_ | with_reducible refine e_v6 ?_ | with_reducible refine g_v6 ?_ | with_reducible refine s_u6 ?_ | with_reducible refine e_v7 ?_ | with_reducible refine g_v7 ?_ | with_reducible refine s_u7 ?_ | with_reducible refine e_v8 ?_ | with_reducible refine g_v8 ?_ | with_reducible refine s_u8 ?_ | with_reducible refine e_v9 ?_ | with_reducible refine g_v9 ?_ | with_reducible refine s_u9 ?_ | with_reducible refine e_v10 ?_ | with_reducible refine g_v10 ?_ | with_reducible refine s_u10 ?_ | with_reducible refine e_v11 ?_ | with_reducible refine g_v11 ?_ | with_reducible refine s_u11 ?_ | with_reducible refine e_v12 ?_ | with_reducible refine g_v12 ?_ | with_reducible refine s_u12 ?_ | with_reducible refine e_v13 ?_ | with_reducible refine g_v13 ?_ | with_reducible refine s_u13 ?_ | with_reducible refine e_v14 ?_ | with_reducible refine g_v14 ?_ | with_reducible refine s_u14 ?_ | with_reducible refine e_v15 ?_ | with_reducible refine g_v15 ?_ | with_reducible refine s_u15 ?_ | with_reducible refine e_v16 ?_ | with_reducible refine g_v16 ?_ | with_reducible refine s_u16 ?_ | with_reducible refine e_v17 ?_ | with_reducible refine g_v17 ?_ | with_reducible refine s_u17 ?_ | with_reducible refine e_v18 ?_ | with_reducible refine g_v18 ?_ | with_reducible refine s_u18 ?_ | with_reducible refine e_v19 ?_ | with_reducible refine g_v19 ?_ | with_reducible refine s_u19 ?_ | ((with_reducible refine e_lc' (ρ' := ?rr) ?hw ?_); (case hw => (dsimp only [wipeW, List.map, List.set]; exact rfl))) | ((with_reducible refine g_tup ?hl ?_); (case hl => exact rfl)) | with_reducible refine b_mod (by first | decide | omega) ?_ | ((with_reducible refine b_pow (pow_ok (by decide) (by decide) (by decide)) ?_); simp only [Int.reduceToNat, Int.reducePow]) | with_reducible refine le_and (by simp only [List.length_cons, List.length_nil]; decide) ?_ | with_reducible refine l_intB ?_ | with_reducible refine l_intI ?_ | with_reducible refine sl_f ?_ | (refine l_len (by exact rfl) (q := ?_); skip) | (refine l_list (by exact rfl) ?_; skip) | (refine ix_t (by exact rfl) ?_; skip))

abbrev TP : Int := 2147483648
theorem can_iff {x : Str} : (PyData.str x).canLay0 = true ↔ ∀ c ∈ x.cps.toList, c < 0x110000 := by
  show x.cps.all (· < 0x110000) = true ↔ _
  rw [← Array.all_toList, List.all_eq_true]
  exact ⟨fun h c hc => by simpa using h c hc, fun h c hc => by simpa using h c hc⟩
theorem can_app {x y : Str} (hx : (PyData.str x).canLay0 = true) (hy : (PyData.str y).canLay0 = true) : (PyData.str (x ++ y)).canLay0 = true := by
  rw [can_iff] at hx hy ⊢
  intro c hc
  rw [app_cps] at hc
  exact (List.mem_append.mp hc).elim (hx c) (hy c)
theorem b_str {x y : Str} {live : Bool} {S : Sto} {Q : WK} (hl : x.length + y.length ≤ 1000) (q : Q (.str (x ++ y)) S) : bopW live .add (.str x) (.str y) S Q := ⟨le_line (by omega), q⟩
/-- a sign of a text -/
theorem ix_txt {z : Str} {n : Nat} {i : Int} {S : Sto} {Q : WK} (hz : z.length = n) (hn : n ≤ 1000) (hc : (PyData.str z).canLay0 = true) (h0 : 0 ≤ i) (h1 : i < n) (q : ∀ x : Str, x.length = 1 → (PyData.str x).canLay0 = true → Q (.str x) S) : idxW (.str z) (.int i) S Q := by
  have hl : i.toNat < z.cps.toList.length := by rw [← len_cps]; omega
  refine ⟨le_line (by omega), z.cps.toList[i.toNat], atI_int h0 (List.getElem?_eq_getElem hl), q _ rfl ?_⟩
  exact can_one hc (List.getElem_mem hl)
theorem mem_cut {ws : List W} {lo hi : Option Int} {w : W} (h : w ∈ cutW ws lo hi) : w ∈ ws := by
  unfold cutW at h
  exact List.mem_of_mem_drop (List.mem_of_mem_take h)
theorem len_cut {ws : List W} {lo hi : Option Int} : (cutW ws lo hi).length ≤ ws.length := by
  unfold cutW
  rw [List.length_take, List.length_drop]
  omega
theorem b_tupl {xs ys : List W} {live : Bool} {S : Sto} {Q : WK} (hl : xs.length + ys.length ≤ sizeLine) (q : Q (.tup (xs ++ ys)) S) : bopW live .add (.tup xs) (.tup ys) S Q := ⟨hl, q⟩
def spOdd : MP.Spec := fun ws S Q _ => ∃ n : Int, ws = [.int n] ∧ 0 ≤ n ∧ n < TP ∧ ∀ w S', Fewer S S' → Od S' w → Q w S'
theorem ok_odd {Φ : Nat → MP.Spec} {ws : List W} {S : Sto} {Q : WK} {X X0 : XC} (h : spOdd ws S Q X) : wps Φ c20 (startW N20 ws) S (dEnds Q X0) := by
  obtain ⟨n, rfl, n0, n1, q⟩ := h
  unfold c20
  show wps Φ _ [some (.int n), none, none] S (dEnds Q X0)
  repeat' contradiction
  refine b_div (div_ok (by decide) (by decide)) ?_
  repeat' contradiction
  have i0 := Int.emod_nonneg (n / 18) (show (64 : Int) ≠ 0 by decide)
  have i1 := Int.emod_lt_of_pos (n / 18) (show (0 : Int) < 64 by decide)
  refine ix_txt (n := 64) (by decide +kernel) (by decide) (by decide +kernel) i0 i1 fun x xl xc => ?_
  repeat' contradiction
  intro p hp
  rw [if_neg Bool.false_ne_true]
  repeat' contradiction
  refine b_div (div_ok (by decide) (by decide)) ?_
  repeat' contradiction
  refine ⟨le_line (by decide +kernel), ?_⟩
  have p1 : Nm 2 ("pq" : Str) := ⟨by decide +kernel, by decide +kernel⟩
  have g1 : Nm 2 ("gh" : Str) := ⟨by decide +kernel, by decide +kernel⟩
  have a1 := p1.cut none (some (n / 1152 % 3))
  have a2 := g1.cut none (some (1 + n / 1152 % 2))
  refine b_str (by have := a1.len; omega) ?_
  repeat' contradiction
  refine b_div (div_ok (by decide) (by decide)) ?_
  repeat' contradiction
  refine ⟨le_line (by decide +kernel), ?_⟩
  repeat' contradiction
  refine b_str (by have := a2.len; omega) ?_
  repeat' contradiction
  refine b_cat rfl rfl (le_line (by simp only [List.length_cons, List.length_nil]; omega)) ?_
  repeat' contradiction
  have j0 := Int.emod_nonneg n (show (18 : Int) ≠ 0 by decide)
  have j1 := Int.emod_lt_of_pos n (show (0 : Int) < 18 by decide)
  refine ix_any j0 (by simp only [List.length_append, List.length_cons, List.length_nil]; omega) fun w hw => d_same (q w _ (fewer_sup hp) ?_)
  have l1 := a1.len
  have l2 := a2.len
  have c1 := can_app xc a1.can
  have c2 := can_app a2.can xc
  have e1 : (x ++ cutS "pq" none (some (n / 1152 % 3))).length ≤ 1000 := by rw [app_len]; omega
  have e2 : (cutS "gh" none (some (1 + n / 1152 % 2)) ++ x).length ≤ 1000 := by rw [app_len]; omega
  generalize x ++ cutS "pq" none (some (n / 1152 % 3)) = y1 at c1 e1 hw
  generalize cutS "gh" none (some (1 + n / 1152 % 2)) ++ x = y2 at c2 e2 hw
  revert w
  simp only [List.mem_append, List.mem_cons, List.not_mem_nil, or_false]
  rintro w ((rfl | rfl | rfl | rfl | rfl | rfl | rfl | rfl | rfl | rfl | rfl | rfl | rfl | rfl | rfl | rfl) | (rfl | rfl))
  · exact .non
  · exact .bl _
  · exact .str _ (by decide +kernel) (by decide +kernel)
  · exact .str _ (by decide +kernel) (by decide +kernel)
  · exact .str _ (by decide +kernel) (by decide +kernel)
  · exact .str _ (by decide +kernel) (by decide +kernel)
  · exact .int _
  · exact .int _
  · exact .int _
  · exact .int _
  · exact .int _
  · exact .int _
  · exact .nil
  · exact .unit
  · exact .dic p sup_same
  · exact .str _ (by decide +kernel) (by decide +kernel)
  · exact .str _ c1 e1
  · exact .str _ c2 e2
/-! ### rows -/
def spChg : MP.Spec := fun ws S Q _ => ∃ (us : List W) (n : Int), ws = [.tup us, .int n] ∧ (∀ w ∈ us, Od S w) ∧ us ≠ [] ∧ us.length ≤ 10 ∧ 0 ≤ n ∧ n < TP ∧ ∀ w S', Fewer S S' → Rw S' w → Q w S'
theorem ok_chg {Φ : Nat → MP.Spec} (h20 : Φ 20 = spOdd) {ws : List W} {S : Sto} {Q : WK} {X X0 : XC} (h : spChg ws S Q X) : wps Φ c21 (startW N21 ws) S (dEnds Q X0) := by
  obtain ⟨us, n, rfl, ho, hne, hl, n0, n1, q⟩ := h
  unfold c21
  show wps Φ _ [some (.tup us), some (.int n), none, none] S (dEnds Q X0)
  repeat' contradiction
  refine ite_d (fun c => ?_) (fun c => ?_)
  · repeat' contradiction
    refine sl_t ?_
    repeat' contradiction
    refine b_tupl (le_line (by simp only [List.length_cons, List.length_nil]; omega)) ?_
    repeat' contradiction
    refine b_div (div_ok (by decide) (by decide)) ?_
    repeat' contradiction
    have i0 := Int.emod_nonneg (n / 7) (show (4 : Int) ≠ 0 by decide)
    have i1 := Int.emod_lt_of_pos (n / 7) (show (0 : Int) < 4 by decide)
    refine ix_any i0 (by simp only [List.length_cons, List.length_nil]; omega) fun w hw => d_same (q w _ fewer_rfl ?_)
    simp only [List.mem_cons, List.not_mem_nil, or_false] at hw
    rcases hw with rfl | rfl | rfl | rfl
    · exact .tup _ fun w hw => ho w (mem_cut hw)
    · refine .tup _ fun w hw => ?_
      rcases List.mem_append.mp hw with hw | hw
      · exact ho w hw
      · rw [List.mem_singleton.mp hw]; exact .int 0
    · exact .lst _ ho
    · exact .non
  · have hp : 0 < us.length := List.length_pos_iff.mpr hne
    repeat' contradiction
    refine b_div (div_ok (by decide) (by decide)) ?_
    repeat' contradiction
    have i0 := Int.emod_nonneg (n / 7) (show ((us.length : Nat) : Int) ≠ 0 by omega)
    have i1 := Int.emod_lt_of_pos (n / 7) (show (0 : Int) < (us.length : Nat) by omega)
    generalize n / 7 % (us.length : Int) = at' at i0 i1 ⊢
    repeat' contradiction
    refine sl_t ?_
    repeat' contradiction
    refine b_div (div_ok (by decide) (by decide)) ?_
    repeat' contradiction
    rw [h20]
    refine ⟨n / 28, rfl, Int.ediv_nonneg n0 (by decide), Int.lt_of_le_of_lt (Int.ediv_le_self _ n0) n1, fun w S' f od => ?_⟩
    repeat' contradiction
    refine b_tupl (le_line (by have := len_cut (ws := us) (lo := none) (hi := some at'); simp only [List.length_cons, List.length_nil]; omega)) ?_
    repeat' contradiction
    refine sl_t ?_
    refine b_tupl (le_line (by have := len_cut (ws := us) (lo := none) (hi := some at'); have := len_cut (ws := us) (lo := some (at' + 1)) (hi := none); simp only [List.length_append, List.length_cons, List.length_nil]; omega)) ?_
    refine d_same (q _ S' f (.tup _ fun u hu => ?_))
    rcases List.mem_append.mp hu with hu | hu
    · rcases List.mem_append.mp hu with hu | hu
      · exact (ho u (mem_cut hu)).up f
      · rw [List.mem_singleton.mp hu]; exact od
    · exact (ho u (mem_cut hu)).up f
/-! ### lists of rows -/
/-- a row as it was made -/
def Rg (S : Sto) (w : W) : Prop := ∃ us, w = .tup us ∧ us ≠ [] ∧ us.length ≤ 10 ∧ ∀ u ∈ us, Od S u
theorem Rg.rw' {S : Sto} {w : W} (h : Rg S w) : Rw S w := by
  obtain ⟨us, rfl, _, _, h⟩ := h
  exact .tup us h
def spBent : MP.Spec := fun ws S Q _ => ∃ (rows more : List W) (n : Int), ws = [.lst rows, .int n, .lst more] ∧ (∀ w ∈ rows, Rg S w ∧ Pln 1 w) ∧ (∀ w ∈ more, Rg S w) ∧ rows.length ≤ 20 ∧ more.length ≤ 50 ∧ 0 ≤ n ∧ n < TP ∧ ∀ w S', Fewer S S' → Ls S' w → Q w S'
theorem ok_bent {Φ : Nat → MP.Spec} (h21 : Φ 21 = spChg) {ws : List W} {S : Sto} {Q : WK} {X X0 : XC} (h : spBent ws S Q X) : wps Φ c22 (startW N22 ws) S (dEnds Q X0) := by
  obtain ⟨rows, more, n, rfl, hr, hm, lr, lm, n0, n1, q⟩ := h
  unfold c22
  show wps Φ _ [some (.lst rows), some (.int n), some (.lst more), none, none] S (dEnds Q X0)
  have rr : ∀ w ∈ rows, Rw S w := fun w hw => (hr w hw).1.rw'
  have rm : ∀ w ∈ more, Rw S w := fun w hw => (hm w hw).rw'
  have lc := fun lo hi => len_cut (ws := rows) (lo := lo) (hi := hi)
  have lcm := fun lo hi => len_cut (ws := more) (lo := lo) (hi := hi)
  repeat' contradiction
  refine ite_d (fun c => ?_) (fun c => ?_)
  · repeat' contradiction
    refine l_tuple rfl ?_
    repeat' contradiction
    refine b_cat rfl rfl (le_line (by omega)) ?_
    repeat' contradiction
    refine b_cat rfl rfl (le_line (by have := lc none (some 1); omega)) ?_
    repeat' contradiction
    refine b_div (div_ok (by decide) (by decide)) ?_
    repeat' contradiction
    have i0 := Int.emod_nonneg (n / 5) (show (4 : Int) ≠ 0 by decide)
    have i1 := Int.emod_lt_of_pos (n / 5) (show (0 : Int) < 4 by decide)
    refine ix_any i0 (by simp only [List.length_cons, List.length_nil]; omega) fun w hw => d_same (q w _ fewer_rfl ?_)
    simp only [List.mem_cons, List.not_mem_nil, or_false] at hw
    rcases hw with rfl | rfl | rfl | rfl
    · exact .tup _ rr (by omega)
    · exact .non
    · exact .lst _ (fun w hw => (List.mem_append.mp hw).elim (rr w) (rm w)) (by rw [List.length_append]; omega)
    · exact .lst _ (fun w hw => (List.mem_append.mp hw).elim (rr w) fun z => rr w (mem_cut z)) (by have := lc none (some 1); rw [List.length_append]; omega)
  · repeat' contradiction
    refine eq_p (n := 2) (m := 1) (.lst 1 _ fun w hw => (hr w hw).2) (.lst 0 [] fun _ h => nomatch h) fun b hb => ?_
    cases b with
    | true =>
      refine iteT' rfl ?_
      repeat' contradiction
      refine b_cat rfl rfl (le_line (by have := lcm none (some 1); omega)) ?_
      repeat' contradiction
      exact d_same (q _ _ fewer_rfl (.lst _ (fun w hw => (List.mem_append.mp hw).elim (rr w) fun z => rm w (mem_cut z)) (by have := lcm none (some 1); rw [List.length_append]; omega)))
    | false =>
      refine iteF' rfl ?_
      have hne : rows ≠ [] := fun e => Bool.noConfusion (hb.mpr (by rw [e]))
      have hp : 0 < rows.length := List.length_pos_iff.mpr hne
      repeat' contradiction
      refine b_div (div_ok (by decide) (by decide)) ?_
      repeat' contradiction
      have i0 := Int.emod_nonneg (n / 5) (show ((rows.length : Nat) : Int) ≠ 0 by omega)
      have i1 := Int.emod_lt_of_pos (n / 5) (show (0 : Int) < (rows.length : Nat) by omega)
      generalize n / 5 % (rows.length : Int) = at' at i0 i1 ⊢
      repeat' contradiction
      refine ite_d (fun c2 => ?_) (fun c2 => ?_)
      · repeat' contradiction
        refine b_cat rfl rfl (le_line (by have := lc none (some at'); have := lc (some at') (some (at' + 1)); omega)) ?_
        repeat' contradiction
        refine b_cat rfl rfl (le_line (by have := lc none (some at'); have := lc (some at') (some (at' + 1)); have := lc (some at') none; rw [List.length_append]; omega)) ?_
        repeat' contradiction
        refine d_same (q _ _ fewer_rfl (.lst _ (fun w hw => ?_) ?_))
        · rcases List.mem_append.mp hw with hw | hw
          · exact (List.mem_append.mp hw).elim (fun z => rr w (mem_cut z)) fun z => rr w (mem_cut z)
          · exact rr w (mem_cut hw)
        · have := lc none (some at')
          have := lc (some at') (some (at' + 1))
          have := lc (some at') none
          rw [List.length_append, List.length_append]; omega
      · repeat' contradiction
        obtain ⟨w, hw⟩ : ∃ w, rows[at'.toNat]? = some w := ⟨rows[at'.toNat]'(by omega), List.getElem?_eq_getElem _⟩
        refine ix_l (atI_int i0 hw) ?_
        repeat' contradiction
        refine b_div (div_ok (by decide) (by decide)) ?_
        repeat' contradiction
        rw [h21]
        obtain ⟨us, rfl, u1, u2, u3⟩ := (hr w (List.mem_of_getElem? hw)).1
        refine ⟨us, n / 60, rfl, u3, u1, u2, Int.ediv_nonneg n0 (by decide), Int.lt_of_le_of_lt (Int.ediv_le_self _ n0) n1, fun w S' f hw => ?_⟩
        repeat' contradiction
        refine b_cat rfl rfl (le_line (by have := lc none (some at'); simp only [List.length_cons, List.length_nil]; omega)) ?_
        repeat' contradiction
        refine b_cat rfl rfl (le_line (by have := lc none (some at'); have := lc (some (at' + 1)) none; simp only [List.length_append, List.length_cons, List.length_nil]; omega)) ?_
        repeat' contradiction
        refine d_same (q _ _ f (.lst _ (fun x hx => ?_) ?_))
        · rcases List.mem_append.mp hx with hx | hx
          · rcases List.mem_append.mp hx with hx | hx
            · exact (rr x (mem_cut hx)).up f
            · rw [List.mem_singleton.mp hx]; exact hw
          · exact (rr x (mem_cut hx)).up f
        · have := lc none (some at')
          have := lc (some (at' + 1)) none
          simp only [List.length_append, List.length_cons, List.length_nil]; omega
end K01

set_option Elab.async false
set_option linter.all false
set_option maxRecDepth 100000
set_option maxHeartbeats 4000000
/-! K01i: refusals caught; words; days put otherwise. -/
namespace K01
open PySem PySem.Spec PyProof.Rows L2 MP NM DK LF LG LH EX EY EZ ST LK
local macro_rules
  | `(tactic| contradiction) => `(tactic| first | with_reducible refine d_in ?_ | with_reducible refine s_nil ?_ | with_reducible refine s_seq ?_ | with_reducible refine s_asg ?_ | with_reducible refine s_par ?_ | with_reducible refine s_expr ?_ | with_reducible refine s_ret ?_ | with_reducible refine s_retN ?_ | with_reducible refine s_iff ?_ | with_reducible refine s_fr ?_ | with_reducible refine s_cont ?_ | with_reducible refine s_brk ?_ | with_reducible refine s_pass ?_ | with_reducible refine s_augS ?_ | with_reducible refine e_int ?_ | with_reducible refine e_str ?_ | with_reducible refine e_bool ?_ | with_reducible refine e_none ?_ | with_reducible refine e_bin ?_ | with_reducible refine e_neg ?_ | with_reducible refine e_nt ?_ | with_reducible refine e_cmp ?_ | with_reducible refine e_chain ?_ | with_reducible refine e_an ?_ | with_reducible refine e_or ?_ | with_reducible refine an_1 ?_ | with_reducible refine an_2 ?_ | with_reducible refine or_1 ?_ | with_reducible refine or_2 ?_ | with_reducible refine e_ife ?_ | with_reducible refine e_call ?_ | with_reducible refine e_blt ?_ | with_reducible refine e_mth ?_ | with_reducible refine e_idx ?_ | with_reducible refine e_slc ?_ | with_reducible refine e_rev ?_ | with_reducible refine e_tup ?_ | with_reducible refine e_lst ?_ | with_reducible refine e_dnew ?_ | with_reducible refine e_dct ?_ | with_reducible refine e_isi ?_ | with_reducible refine e_lrg ?_ | with_reducible refine e_lzip ?_ | with_reducible refine e_stp ?_ | with_reducible refine e_sset ?_ | with_reducible refine es_n ?_ | with_reducible refine es_c ?_ | with_reducible refine o_nil ?_ | with_reducible refine o_var ?_ | with_reducible refine o_cst ?_ | with_reducible refine o_bin ?_ | with_reducible refine o_neg ?_ | with_reducible refine o_blt ?_ | with_reducible refine o_call ?_ | with_reducible refine ik ?_ | with_reducible refine ng ?_ | with_reducible refine tq_bl ?_ | with_reducible refine tq_int ?_ | with_reducible refine tq_non ?_ | with_reducible refine tq_lst ?_ | with_reducible refine tq_tup ?_ | with_reducible refine t_var ?_ | with_reducible refine t_call ?_ | with_reducible refine t_blt ?_ | with_reducible refine t_mth ?_ | with_reducible refine t_idx ?_ | with_reducible refine t_isi ?_ | with_reducible refine t_cst ?_ | with_reducible refine t_nt ?_ | with_reducible refine t_cmp ?_ | with_reducible refine t_chain ?_ | with_reducible refine t_an ?_ | with_reducible refine t_or ?_ | with_reducible refine ant_1 ?_ | with_reducible refine ant_2 ?_ | with_reducible refine ort_1 ?_ | with_reducible refine ort_2 ?_ | with_reducible refine tr_bl ?_ | with_reducible refine tr_int ?_ | with_reducible refine tr_lst ?_ | with_reducible refine tr_non ?_ | with_reducible refine c_nil ?_ | with_reducible refine c_one ?_ | with_reducible refine g_sub ?_ | with_reducible refine gs_n ?_ | with_reducible refine gs_c ?_ | with_reducible refine i_seq ?_ | with_reducible refine i_rng1 ?_ | with_reducible refine i_rng2 ?_ | with_reducible refine i_rng3 ?_ | with_reducible refine i_zip ?_ | with_reducible refine i_enm ?_ | with_reducible refine b_add ?_ | with_reducible refine b_sub ?_ | with_reducible refine c_lt ?_ | with_reducible refine c_le ?_ | with_reducible refine c_gt ?_ | with_reducible refine c_ge ?_ | with_reducible refine mk_f ?_ | with_reducible refine ref_and ?_ | with_reducible refine u_set ?_ | with_reducible refine eq_i ?_ | with_reducible refine ne_i ?_ | with_reducible refine eq_b ?_ | with_reducible refine ne_b ?_ | with_reducible refine is_b ?_ | with_reducible refine isn_b ?_ | with_reducible refine is_n ?_ | with_reducible refine isn_n ?_ | with_reducible refine e_v0 ?_ | with_reducible refine g_v0 ?_ | with_reducible refine s_u0 ?_ | with_reducible refine e_v1 ?_ | with_reducible refine g_v1 ?_ | with_reducible refine s_u1 ?_ | with_reducible refine e_v2 ?_ | with_reducible refine g_v2 ?_ | with_reducible refine s_u2 ?_ | with_reducible refine e_v3 ?_ | with_reducible refine g_v3 ?_ | with_reducible refine s_u3 ?_ | with_reducible refine e_v4 ?_ | with_reducible refine g_v4 ?_ | with_reducible refine s_u4 ?_ | with_reducible refine e_v5 ?_ | with_reducible refine g_v5 ?_ | with_reducible refine s_u5 ?_ | with_reducible refine e_v6 ?_ | with_reducible refine g_v6 ?_ | with_reducible refine s_u6 ?_ | with_reducible refine e_v7 ?_ | with_reducible refine g_v7 ?_ | with_reducible refine s_u7 ?_ | with_reducible refine e_v8 ?_ | with_reducible refine g_v8 ?_ | with_reducible refine s_u8 ?_ | with_reducible refine e_v9 ?_ | with_reducible refine g_v9 ?_ | with_reducible refine s_u9 ?_ | with_reducible refine e_v10 ?_ | with_reducible refine g_v10 ?_ | with_reducible refine s_u10 ?_ | with_reducible refine e_v11 ?_ | with_reducible refine g_v11 ?_ | with_reducible refine s_u11 ?_ | with_reducible refine e_v12 ?_ | with_reducible refine g_v12 ?_ | with_reducible refine s_u12 ?_ | with_reducible refine e_v13 ?_ | with_reducible refine g_v13 ?_ | with_reducible refine s_u13 ?_ | with_reducible refine e_v14 ?_ | with_reducible refine g_v14 ?_ | with_reducible refine s_u14 ?_ | with_reducible refine e_v15 ?_ | with_reducible refine g_v15 ?_ | with_reducible refine s_u15 ?_ | with_reducible refine e_v16 ?_ | with_reducible refine g_v16 ?_ | with_reducible refine s_u16 ?_ | with_reducible refine e_v17 ?_ | with_reducible refine g_v17 ?_ | with_reducible refine s_u17 ?_ | with_reducible refine e_v18 ?_ | with_reducible refine g_v18 ?_ | with_reducible refine s_u18 ?_ | with_reducible refine e_v19 ?_ | with_reducible refine g_v19 ?_ | with_reducible refine s_u19 ?_ | ((with_reducible refine e_lc' (ρ' := ?rr) ?hw ?_); (case hw => (dsimp only [wipeW, List.map, List.set]; exact rfl))) | ((with_reducible refine g_tup ?hl ?_); (case hl => exact rfl)) | with_reducible refine b_mod (by first | decide | omega) ?_ | ((with_reducible refine b_pow (pow_ok (by decide) (by decide) (by decide)) ?_); simp only [Int.reduceToNat, Int.reducePow]) | with_reducible refine le_and (by simp only [List.length_cons, List.length_nil]; decide) ?_ | with_reducible refine l_intB ?_ | with_reducible refine l_intI ?_ | with_reducible refine sl_f ?_ | (refine l_len (by exact rfl) (q := ?_); skip) | (refine l_list (by exact rfl) ?_; skip) | (refine ix_t (by exact rfl) ?_; skip))

def spRef : MP.Spec := fun ws S Q _ => (∃ a d, ws = [a, d, .int 0] ∧ Ls S a ∧ Q (.bl (!townB a)) S) ∨ ∃ (town : List Nb) (d : W), ws = [.lst (town.map eN), d, .int 1] ∧ TownOk town ∧ town.length ≤ 12 ∧ Dy S d ∧ Q (.bl (!dayB (town.map (·.1)) d)) S
/-- what comes behind the try -/
def t23 : CS := match c23 with
  | .seq _ (.seq _ (.seq _ t)) => t
  | _ => .nil
theorem fewer_not {S0 S : Sto} {p : Addr} (f : Fewer S0 S) (h : S p = none) : S0 p = none := by
  cases e : S0 p with
  | none => rfl
  | some o => rw [f p o e] at h; cases h
theorem in_blsR {x : Bool} {bs : List Bool} {S : Sto} {a : Addr} {Q : Bool → Prop} (ha : S a = some (.lst (bs.map W.bl))) (q : ∀ b : Bool, (b = true ↔ x ∈ bs) → Q b) : cmpW .In (.bl x) (.ref a) S Q := by
  have h := in_bls (S := S) (x := x) (bs := bs) (Q := Q) q
  rcases h with ⟨ws, d, ds, h1, rest⟩ | ⟨o, h1, _⟩ | ⟨p, kvs, ws, h1, _⟩
  · cases h1
    exact .inl ⟨_, d, ds, rdl_c ha, rest⟩
  · cases h1
  · cases h1
theorem ref_tail {Φ : Nat → MP.Spec} {a d : W} {κ : Int} {c : Str} {p : Addr} {S0 S : Sto} {Q : WK} {X0 : XC} (hp : S p = some (.exn c)) (f : Fewer S0 S) (hc : (c = "BadTown" ∧ κ = 0) ∨ (c = "BadDay" ∧ κ = 1)) (q : Q (.bl true) S0) :
    wps Φ t23 [some a, some d, some (.int κ), some (.ref p), some .non, none, none, none] S (dEnds Q X0) := by
  unfold t23 c23
  dsimp only
  have hm : c ∈ (["BadTown", "BadDay"] : List Str) := by
    rcases hc with ⟨rfl, _⟩ | ⟨rfl, _⟩ <;> decide +kernel
  have m0 : decide (c ∈ ([] : List Str)) = false := by simp
  have m3 : decide (c ∈ (["BadTown", "BadDay"] : List Str)) = true := decide_eq_true hm
  have m1 : ∃ b1 b2, decide (c ∈ (["BadTown"] : List Str)) = b1 ∧ decide (c ∈ (["BadDay"] : List Str)) = b2 ∧ ((b1 = true ∧ b2 = false ∧ κ = 0) ∨ (b1 = false ∧ b2 = true ∧ κ = 1)) := by
    rcases hc with ⟨rfl, rfl⟩ | ⟨rfl, rfl⟩
    · exact ⟨true, false, by decide +kernel, by decide +kernel, .inl ⟨rfl, rfl, rfl⟩⟩
    · exact ⟨false, true, by decide +kernel, by decide +kernel, .inr ⟨rfl, rfl, rfl⟩⟩
  obtain ⟨b1, b2, e1, e2, hb⟩ := m1
  repeat' contradiction
  refine iteF' rfl ?_
  repeat' contradiction
  have isc : ∀ {S1 : Sto} {x : Str} {xs : List Str} {b : Bool} {r3 r4 r5 r6 : Option W} {Q1 : WK} {X1 : XC}, S1 p = some (.exn c) → decide (c ∈ xs) = b → Q1 (.bl b) S1 → (wp Φ (.isc (.var 3) x ["BadTown", "BadDay"] xs)).e [some a, some d, some (.int κ), some (.ref p), r3, r4, r5, r6] S1 Q1 X1 := fun h1 h2 h3 => by
    refine e_isc ?_
    repeat' contradiction
    refine ⟨p, c, rfl, h1, hm, ?_⟩
    rw [h2]; exact h3
  refine isc hp m0 ?_
  repeat' contradiction
  refine isc hp m0 ?_
  repeat' contradiction
  refine isc hp m0 ?_
  repeat' contradiction
  refine mk_t fun q1 hq1 => ?_
  have n1 : p ≠ q1 := fun e => by rw [← e, hp] at hq1; cases hq1
  have hp1 : sup S q1 (.lst [.bl false, .bl false, .bl false]) p = some (.exn c) := (sup_ne n1).trans hp
  have hq2 : sup S q1 (.lst [.bl false, .bl false, .bl false]) q1 = some (.lst [.bl false, .bl false, .bl false]) := sup_same
  have f1 : Fewer S0 (sup S q1 (.lst [.bl false, .bl false, .bl false])) := fewer_more f (fewer_not f hq1)
  generalize sup S q1 (.lst [.bl false, .bl false, .bl false]) = S1 at hp1 hq2 f1 ⊢
  repeat' contradiction
  refine isc hp1 m0 ?_
  repeat' contradiction
  refine isc hp1 m0 ?_
  repeat' contradiction
  refine isc hp1 m0 ?_
  repeat' contradiction
  refine b_cat (rdl_c hq2) rfl (le_line (by decide)) (mk_t fun q3 hq3 => ?_)
  have n2 : p ≠ q3 := fun e => by rw [← e, hp1] at hq3; cases hq3
  have hp2 : sup S1 q3 (.lst ([.bl false, .bl false, .bl false] ++ [.bl false, .bl false, .bl false])) p = some (.exn c) := (sup_ne n2).trans hp1
  have hq4 : sup S1 q3 (.lst ([.bl false, .bl false, .bl false] ++ [.bl false, .bl false, .bl false])) q3 = some (.lst [.bl false, .bl false, .bl false, .bl false, .bl false, .bl false]) := sup_same
  have f2 : Fewer S0 (sup S1 q3 (.lst ([.bl false, .bl false, .bl false] ++ [.bl false, .bl false, .bl false]))) := fewer_more f1 (fewer_not f1 hq3)
  generalize sup S1 q3 (.lst ([.bl false, .bl false, .bl false] ++ [.bl false, .bl false, .bl false])) = S2 at hp2 hq4 f2 ⊢
  have f0 : S0 q3 = none := fewer_not f1 hq3
  repeat' contradiction
  refine m_rcv rfl hq4 ?_
  repeat' contradiction
  refine isc hp2 m0 ?_
  repeat' contradiction
  refine m_app hq4 (lt_line (by decide)) ?_
  have hp3 : sup S2 q3 (.lst ([.bl false, .bl false, .bl false, .bl false, .bl false, .bl false] ++ [.bl false])) p = some (.exn c) := (sup_ne n2).trans hp2
  have hq5 : sup S2 q3 (.lst ([.bl false, .bl false, .bl false, .bl false, .bl false, .bl false] ++ [.bl false])) q3 = some (.lst ([false, false, false, false, false, false, false].map W.bl)) := sup_same
  have f3 : Fewer S0 (sup S2 q3 (.lst ([.bl false, .bl false, .bl false, .bl false, .bl false, .bl false] ++ [.bl false]))) := fewer_more f2 f0
  generalize sup S2 q3 (.lst ([.bl false, .bl false, .bl false, .bl false, .bl false, .bl false] ++ [.bl false])) = S3 at hp3 hq5 f3 ⊢
  repeat' contradiction
  refine isc hp3 e1 ?_
  repeat' contradiction
  refine isc hp3 e2 ?_
  repeat' contradiction
  refine in_blsR hq5 fun r hr => ?_
  refine iteF' (b_f hr (by decide)) ?_
  repeat' contradiction
  have tisc : ∀ {x : Str} {xs : List Str} {b : Bool} {r3 r4 r5 r6 : Option W} {Q1 : Bool → Sto → Prop} {X1 : XC}, decide (c ∈ xs) = b → Q1 b S3 → (wp Φ (.isc (.var 3) x ["BadTown", "BadDay"] xs)).t [some a, some d, some (.int κ), some (.ref p), r3, r4, r5, r6] S3 Q1 X1 := fun h2 h3 => by
    refine t_isc (isc hp3 h2 ?_)
    repeat' contradiction
    exact h3
  refine tisc m3 ?_
  refine iteF' rfl ?_
  repeat' contradiction
  rcases hb with ⟨rfl, rfl, rfl⟩ | ⟨rfl, rfl, rfl⟩
  · refine ix_l (w := .bl false) (by exact rfl) ?_
    repeat' contradiction
    refine iteF' rfl ?_
    repeat' contradiction
    exact d_ret f3 q
  · refine ix_l (w := .bl false) (by exact rfl) ?_
    repeat' contradiction
    refine iteF' rfl ?_
    repeat' contradiction
    exact d_ret f3 q
theorem ok_ref {Φ : Nat → MP.Spec} (h4 : Φ 4 = spNeedT) (h7 : Φ 7 = spNeedD) {ws : List W} {S : Sto} {Q : WK} {X X0 : XC} (h : spRef ws S Q X) : wps Φ c23 (startW N23 ws) S (dEnds Q X0) := by
  rcases h with ⟨a, d, rfl, la, q⟩ | ⟨town, d, rfl, hT, ht, hd, q⟩
  · show wps Φ c23 [some a, some d, some (.int 0), none, none, none, none, none] S (dEnds Q X0)
    have tl := fun {p : Addr} {S1 : Sto} (h1 : S1 p = some (.exn "BadTown")) (h2 : Fewer S S1) (h3 : Q (.bl true) S) => ref_tail (Φ := Φ) (a := a) (d := d) (κ := 0) (X0 := X0) h1 h2 (.inl ⟨rfl, rfl⟩) h3
    unfold t23 c23 at tl
    dsimp only at tl
    unfold c23
    repeat' contradiction
    refine s_tca ?_
    repeat' contradiction
    refine iteT' rfl ?_
    repeat' contradiction
    rw [h4]
    refine ⟨a, rfl, la, fun e => ?_, fun e => ⟨rfl, by decide +kernel, fun p hp => ?_⟩, fun e S' h => h.1⟩
    · repeat' contradiction
      refine iteT' rfl ?_
      repeat' contradiction
      refine iteT' rfl ?_
      repeat' contradiction
      rw [e] at q
      exact d_same q
    · rw [e] at q
      exact tl sup_same (fewer_sup hp) q
  · show wps Φ c23 [some (.lst (town.map eN)), some d, some (.int 1), none, none, none, none, none] S (dEnds Q X0)
    have tl := fun {p : Addr} {S1 : Sto} (h1 : S1 p = some (.exn "BadDay")) (h2 : Fewer S S1) (h3 : Q (.bl true) S) => ref_tail (Φ := Φ) (a := .lst (town.map eN)) (d := d) (κ := 1) (X0 := X0) h1 h2 (.inr ⟨rfl, rfl⟩) h3
    unfold t23 c23 at tl
    dsimp only at tl
    unfold c23
    repeat' contradiction
    refine s_tca ?_
    repeat' contradiction
    refine iteF' rfl ?_
    repeat' contradiction
    rw [h7]
    refine ⟨town, d, rfl, hT, ht, hd, fun e => ?_, fun e => ⟨rfl, by decide +kernel, fun p hp => ?_⟩, fun e S' h => h.1⟩
    · repeat' contradiction
      refine iteT' rfl ?_
      repeat' contradiction
      refine iteT' rfl ?_
      repeat' contradiction
      rw [e] at q
      exact d_same q
    · rw [e] at q
      exact tl sup_same (fewer_sup hp) q
end K01

set_option Elab.async false
set_option linter.all false
set_option maxRecDepth 100000
set_option maxHeartbeats 4000000
/-! K01j: words; days put otherwise. -/
namespace K01
open PySem PySem.Spec PyProof.Rows L2 MP NM DK LF LG LH EX EY EZ ST LK
local macro_rules
  | `(tactic| contradiction) => `(tactic| first | with_reducible refine d_in ?_ | with_reducible refine s_nil ?_ | with_reducible refine s_seq ?_ | with_reducible refine s_asg ?_ | with_reducible refine s_par ?_ | with_reducible refine s_expr ?_ | with_reducible refine s_ret ?_ | with_reducible refine s_retN ?_ | with_reducible refine s_iff ?_ | with_reducible refine s_fr ?_ | with_reducible refine s_cont ?_ | with_reducible refine s_brk ?_ | with_reducible refine s_pass ?_ | with_reducible refine s_augS ?_ | with_reducible refine e_int ?_ | with_reducible refine e_str ?_ | with_reducible refine e_bool ?_ | with_reducible refine e_none ?_ | with_reducible refine e_bin ?_ | with_reducible refine e_neg ?_ | with_reducible refine e_nt ?_ | with_reducible refine e_cmp ?_ | with_reducible refine e_chain ?_ | with_reducible refine e_an ?_ | with_reducible refine e_or ?_ | with_reducible refine an_1 ?_ | with_reducible refine an_2 ?_ | with_reducible refine or_1 ?_ | with_reducible refine or_2 ?_ | with_reducible refine e_ife ?_ | with_reducible refine e_call ?_ | with_reducible refine e_blt ?_ | with_reducible refine e_mth ?_ | with_reducible refine e_idx ?_ | with_reducible refine e_slc ?_ | with_reducible refine e_rev ?_ | with_reducible refine e_tup ?_ | with_reducible refine e_lst ?_ | with_reducible refine e_dnew ?_ | with_reducible refine e_dct ?_ | with_reducible refine e_isi ?_ | with_reducible refine e_lrg ?_ | with_reducible refine e_lzip ?_ | with_reducible refine e_stp ?_ | with_reducible refine e_sset ?_ | with_reducible refine es_n ?_ | with_reducible refine es_c ?_ | with_reducible refine o_nil ?_ | with_reducible refine o_var ?_ | with_reducible refine o_cst ?_ | with_reducible refine o_bin ?_ | with_reducible refine o_neg ?_ | with_reducible refine o_blt ?_ | with_reducible refine o_call ?_ | with_reducible refine ik ?_ | with_reducible refine ng ?_ | with_reducible refine tq_bl ?_ | with_reducible refine tq_int ?_ | with_reducible refine tq_non ?_ | with_reducible refine tq_lst ?_ | with_reducible refine tq_tup ?_ | with_reducible refine t_var ?_ | with_reducible refine t_call ?_ | with_reducible refine t_blt ?_ | with_reducible refine t_mth ?_ | with_reducible refine t_idx ?_ | with_reducible refine t_isi ?_ | with_reducible refine t_cst ?_ | with_reducible refine t_nt ?_ | with_reducible refine t_cmp ?_ | with_reducible refine t_chain ?_ | with_reducible refine t_an ?_ | with_reducible refine t_or ?_ | with_reducible refine ant_1 ?_ | with_reducible refine ant_2 ?_ | with_reducible refine ort_1 ?_ | with_reducible refine ort_2 ?_ | with_reducible refine tr_bl ?_ | with_reducible refine tr_int ?_ | with_reducible refine tr_lst ?_ | with_reducible refine tr_non ?_ | with_reducible refine c_nil ?_ | with_reducible refine c_one ?_ | with_reducible refine g_sub ?_ | with_reducible refine gs_n ?_ | with_reducible refine gs_c ?_ | with_reducible refine i_seq ?_ | with_reducible refine i_rng1 ?_ | with_reducible refine i_rng2 ?_ | with_reducible refine i_rng3 ?_ | with_reducible refine i_zip ?_ | with_reducible refine i_enm ?_ | with_reducible refine b_add ?_ | with_reducible refine b_sub ?_ | with_reducible refine c_lt ?_ | with_reducible refine c_le ?_ | with_reducible refine c_gt ?_ | with_reducible refine c_ge ?_ | with_reducible refine mk_f ?_ | with_reducible refine ref_and ?_ | with_reducible refine u_set ?_ | with_reducible refine eq_i ?_ | with_reducible refine ne_i ?_ | with_reducible refine eq_b ?_ | with_reducible refine ne_b ?_ | with_reducible refine is_b ?_ | with_reducible refine isn_b ?_ | with_reducible refine is_n ?_ | with_reducible refine isn_n ?_ | with_reducible refine e_v0 ?_ | with_reducible refine g_v0 ?_ | with_reducible refine s_u0 ?_ | with_reducible refine e_v1 ?_ | with_reducible refine g_v1 ?_ | with_reducible refine s_u1 ?_ | with_reducible refine e_v2 ?_ | with_reducible refine g_v2 ?_ | with_reducible refine s_u2 ?_ | with_reducible refine e_v3 ?_ | with_reducible refine g_v3 ?_ | with_reducible refine s_u3 ?_ | with_reducible refine e_v4 ?_ | with_reducible refine g_v4 ?_ | with_reducible refine s_u4 ?_ | with_reducible refine e_v5 ?_ | with_reducible refine g_v5 ?_ | with_reducible refine s_u5 ?_ | with_reducible refine e_v6 ?_ | with_reducible refine g_v6 ?_ | with_reducible refine s_u6 ?_ | with_reducible refine e_v7 ?_ | with_reducible refine g_v7 ?_ | with_reducible refine s_u7 ?_ | with_reducible refine e_v8 ?_ | with_reducible refine g_v8 ?_ | with_reducible refine s_u8 ?_ | with_reducible refine e_v9 ?_ | with_reducible refine g_v9 ?_ | with_reducible refine s_u9 ?_ | with_reducible refine e_v10 ?_ | with_reducible refine g_v10 ?_ | with_reducible refine s_u10 ?_ | with_reducible refine e_v11 ?_ | with_reducible refine g_v11 ?_ | with_reducible refine s_u11 ?_ | with_reducible refine e_v12 ?_ | with_reducible refine g_v12 ?_ | with_reducible refine s_u12 ?_ | with_reducible refine e_v13 ?_ | with_reducible refine g_v13 ?_ | with_reducible refine s_u13 ?_ | with_reducible refine e_v14 ?_ | with_reducible refine g_v14 ?_ | with_reducible refine s_u14 ?_ | with_reducible refine e_v15 ?_ | with_reducible refine g_v15 ?_ | with_reducible refine s_u15 ?_ | with_reducible refine e_v16 ?_ | with_reducible refine g_v16 ?_ | with_reducible refine s_u16 ?_ | with_reducible refine e_v17 ?_ | with_reducible refine g_v17 ?_ | with_reducible refine s_u17 ?_ | with_reducible refine e_v18 ?_ | with_reducible refine g_v18 ?_ | with_reducible refine s_u18 ?_ | with_reducible refine e_v19 ?_ | with_reducible refine g_v19 ?_ | with_reducible refine s_u19 ?_ | ((with_reducible refine e_lc' (ρ' := ?rr) ?hw ?_); (case hw => (dsimp only [wipeW, List.map, List.set]; exact rfl))) | ((with_reducible refine g_tup ?hl ?_); (case hl => exact rfl)) | with_reducible refine b_mod (by first | decide | omega) ?_ | ((with_reducible refine b_pow (pow_ok (by decide) (by decide) (by decide)) ?_); simp only [Int.reduceToNat, Int.reducePow]) | with_reducible refine le_and (by simp only [List.length_cons, List.length_nil]; decide) ?_ | with_reducible refine l_intB ?_ | with_reducible refine l_intI ?_ | with_reducible refine sl_f ?_ | (refine l_len (by exact rfl) (q := ?_); skip) | (refine l_list (by exact rfl) ?_; skip) | (refine ix_t (by exact rfl) ?_; skip))

/-! ### words -/
def spWords : MP.Spec := fun ws S Q _ => ∃ n : Int, ws = [.int n] ∧ 0 ≤ n ∧ n < TP ∧ Q (.bl true) S
theorem ok_words {Φ : Nat → MP.Spec} (h0 : Φ 0 = spIsName) (h1 : Φ 1 = spWhole) (h10 : Φ 10 = LK.spName) (h14 : Φ 14 = spWhole) (h15 : Φ 15 = spLName) (h20 : Φ 20 = spOdd) {ws : List W} {S : Sto} {Q : WK} {X X0 : XC} (h : spWords ws S Q X) : wps Φ c26 (startW N26 ws) S (dEnds Q X0) := by
  obtain ⟨n, rfl, n0, n1, q⟩ := h
  have dv : ∀ k : Int, 0 < k → 0 ≤ n / k ∧ n / k < TP := fun k hk => ⟨Int.ediv_nonneg n0 (by omega), Int.lt_of_le_of_lt (Int.ediv_le_self _ n0) n1⟩
  unfold c26
  show wps Φ _ [some (.int n), none, none, none] S (dEnds Q X0)
  repeat' contradiction
  rw [h20]
  refine ⟨n, rfl, n0, n1, fun w1 S1 f1 o1 => ?_⟩
  repeat' contradiction
  refine b_div (div_ok (by decide) (by decide)) ?_
  repeat' contradiction
  refine b_div (div_ok (by decide) (by decide)) ?_
  repeat' contradiction
  rw [h10]
  have i0 := Int.emod_nonneg (n / 5) (show (13 : Int) ≠ 0 by decide)
  have i1 := Int.emod_lt_of_pos (n / 5) (show (0 : Int) < 13 by decide)
  refine u_name (dv 16 (by decide)).1 (dv 16 (by decide)).2 i0 i1 ?_
  have nk := nmK_nme (seed := n / 16) (k := (n / 5 % 13).toNat) (by omega)
  generalize nmK (n / 16) (n / 5 % 13).toNat = y at nk ⊢
  repeat' contradiction
  refine b_div (div_ok (by decide) (by decide)) ?_
  repeat' contradiction
  rw [h20]
  refine ⟨n / 16, rfl, (dv 16 (by decide)).1, (dv 16 (by decide)).2, fun w3 S3 f3 o3 => ?_⟩
  repeat' contradiction
  have all : ∀ w ∈ [w1, .str y, w3], Od S3 w := fun w hw => by
    simp only [List.mem_cons, List.not_mem_nil, or_false] at hw
    rcases hw with rfl | rfl | rfl
    · exact o1.up f3
    · exact .str y nk.can (by have := nk.nm.len; omega)
    · exact o3
  have f : Fewer S S3 := fewer_trans f1 f3
  refine ⟨[w1, .str y, w3], rfl, ?_⟩
  generalize [w1, W.str y, w3] = items at all ⊢
  refine for_inv (fun i ρ S' => ∃ r1 r2 r3, ρ = [some (.int n), r1, r2, r3] ∧ S' = S3) ⟨_, _, _, rfl, rfl⟩ (fun i ρ S' h => ?_) (fun i w ρ S' hw h K hK => ?_) (fun ρ S' h => ?_)
  · rfl
  · obtain ⟨r1, r2, r3, rfl, rfl⟩ := h
    have od := all w (List.mem_of_getElem? hw)
    obtain ⟨k, hk⟩ := od.knd
    repeat' contradiction
    rw [h0]
    refine ⟨w, k, rfl, hk, od.line, ?_⟩
    repeat' contradiction
    rw [h1]
    refine ⟨w, k, _, _, rfl, hk, ?_⟩
    repeat' contradiction
    refine ⟨_, rfl, ?_⟩
    refine lc_mi (fun _ => .bl true) rfl (le_line (by simp)) (fun x hx K1 hK1 => ?_) ?_
    · repeat' contradiction
      simp only [List.mem_cons, List.not_mem_nil, or_false] at hx
      rcases hx with rfl | rfl <;> exact ⟨.bl, rfl, hK1⟩
    repeat' contradiction
    have e0 : [W.bl (nameB w), W.bl (wholeB (-1) 1000000000000000000000000000000 w)].map (fun _ => W.bl true) = [true, true].map W.bl := rfl
    rw [e0]
    refine in_bls fun r hr => ?_
    refine iteF' (b_f hr (by decide)) ?_
    repeat' contradiction
    rw [h15]
    refine ⟨w, k, rfl, hk, od.lname, ?_⟩
    repeat' contradiction
    rw [h14]
    refine ⟨w, k, _, _, rfl, hk, ?_⟩
    repeat' contradiction
    refine ne_self (n := 1) (.lst 0 _ fun u hu => ?_) ?_
    · simp only [List.mem_cons, List.not_mem_nil, or_false] at hu
      rcases hu with rfl | rfl <;> exact .bl _ _
    refine iteF' rfl ?_
    repeat' contradiction
    exact hK _ _ ⟨_, _, _, rfl, rfl⟩
  · obtain ⟨r1, r2, r3, rfl, rfl⟩ := h
    repeat' contradiction
    exact d_ret f q
end K01

set_option Elab.async false
set_option linter.all false
set_option maxRecDepth 100000
set_option maxHeartbeats 4000000
/-! K01k: days put otherwise. -/
namespace K01
open PySem PySem.Spec PyProof.Rows L2 MP NM DK LF LG LH EX EY EZ ST LK
local macro_rules
  | `(tactic| contradiction) => `(tactic| first | with_reducible refine d_in ?_ | with_reducible refine s_nil ?_ | with_reducible refine s_seq ?_ | with_reducible refine s_asg ?_ | with_reducible refine s_par ?_ | with_reducible refine s_expr ?_ | with_reducible refine s_ret ?_ | with_reducible refine s_retN ?_ | with_reducible refine s_iff ?_ | with_reducible refine s_fr ?_ | with_reducible refine s_cont ?_ | with_reducible refine s_brk ?_ | with_reducible refine s_pass ?_ | with_reducible refine s_augS ?_ | with_reducible refine e_int ?_ | with_reducible refine e_str ?_ | with_reducible refine e_bool ?_ | with_reducible refine e_none ?_ | with_reducible refine e_bin ?_ | with_reducible refine e_neg ?_ | with_reducible refine e_nt ?_ | with_reducible refine e_cmp ?_ | with_reducible refine e_chain ?_ | with_reducible refine e_an ?_ | with_reducible refine e_or ?_ | with_reducible refine an_1 ?_ | with_reducible refine an_2 ?_ | with_reducible refine or_1 ?_ | with_reducible refine or_2 ?_ | with_reducible refine e_ife ?_ | with_reducible refine e_call ?_ | with_reducible refine e_blt ?_ | with_reducible refine e_mth ?_ | with_reducible refine e_idx ?_ | with_reducible refine e_slc ?_ | with_reducible refine e_rev ?_ | with_reducible refine e_tup ?_ | with_reducible refine e_lst ?_ | with_reducible refine e_dnew ?_ | with_reducible refine e_dct ?_ | with_reducible refine e_isi ?_ | with_reducible refine e_lrg ?_ | with_reducible refine e_lzip ?_ | with_reducible refine e_stp ?_ | with_reducible refine e_sset ?_ | with_reducible refine es_n ?_ | with_reducible refine es_c ?_ | with_reducible refine o_nil ?_ | with_reducible refine o_var ?_ | with_reducible refine o_cst ?_ | with_reducible refine o_bin ?_ | with_reducible refine o_neg ?_ | with_reducible refine o_blt ?_ | with_reducible refine o_call ?_ | with_reducible refine ik ?_ | with_reducible refine ng ?_ | with_reducible refine tq_bl ?_ | with_reducible refine tq_int ?_ | with_reducible refine tq_non ?_ | with_reducible refine tq_lst ?_ | with_reducible refine tq_tup ?_ | with_reducible refine t_var ?_ | with_reducible refine t_call ?_ | with_reducible refine t_blt ?_ | with_reducible refine t_mth ?_ | with_reducible refine t_idx ?_ | with_reducible refine t_isi ?_ | with_reducible refine t_cst ?_ | with_reducible refine t_nt ?_ | with_reducible refine t_cmp ?_ | with_reducible refine t_chain ?_ | with_reducible refine t_an ?_ | with_reducible refine t_or ?_ | with_reducible refine ant_1 ?_ | with_reducible refine ant_2 ?_ | with_reducible refine ort_1 ?_ | with_reducible refine ort_2 ?_ | with_reducible refine tr_bl ?_ | with_reducible refine tr_int ?_ | with_reducible refine tr_lst ?_ | with_reducible refine tr_non ?_ | with_reducible refine c_nil ?_ | with_reducible refine c_one ?_ | with_reducible refine g_sub ?_ | with_reducible refine gs_n ?_ | with_reducible refine gs_c ?_ | with_reducible refine i_seq ?_ | with_reducible refine i_rng1 ?_ | with_reducible refine i_rng2 ?_ | with_reducible refine i_rng3 ?_ | with_reducible refine i_zip ?_ | with_reducible refine i_enm ?_ | with_reducible refine b_add ?_ | with_reducible refine b_sub ?_ | with_reducible refine c_lt ?_ | with_reducible refine c_le ?_ | with_reducible refine c_gt ?_ | with_reducible refine c_ge ?_ | with_reducible refine mk_f ?_ | with_reducible refine ref_and ?_ | with_reducible refine u_set ?_ | with_reducible refine eq_i ?_ | with_reducible refine ne_i ?_ | with_reducible refine eq_b ?_ | with_reducible refine ne_b ?_ | with_reducible refine is_b ?_ | with_reducible refine isn_b ?_ | with_reducible refine is_n ?_ | with_reducible refine isn_n ?_ | with_reducible refine e_v0 ?_ | with_reducible refine g_v0 ?_ | with_reducible refine s_u0 ?_ | with_reducible refine e_v1 ?_ | with_reducible refine g_v1 ?_ | with_reducible refine s_u1 ?_ | with_reducible refine e_v2 ?_ | with_reducible refine g_v2 ?_ | with_reducible refine s_u2 ?_ | with_reducible refine e_v3 ?_ | with_reducible refine g_v3 ?_ | with_reducible refine s_u3 ?_ | with_reducible refine e_v4 ?_ | with_reducible refine g_v4 ?_ | with_reducible refine s_u4 ?_ | with_reducible refine e_v5 ?_ | with_reducible refine g_v5 ?_ | with_reducible refine s_u5 ?_ | with_reducible refine e_v6 ?_ | with_reducible refine g_v6 ?_ | with_reducible refine s_u6 ?_ | with_reducible refine e_v7 ?_ | with_reducible refine g_v7 ?_ | with_reducible refine s_u7 ?_ | with_reducible refine e_v8 ?_ | with_reducible refine g_v8 ?_ | with_reducible refine s_u8 ?_ | with_reducible refine e_v9 ?_ | with_reducible refine g_v9 ?_ | with_reducible refine s_u9 ?_ | with_reducible refine e_v10 ?_ | with_reducible refine g_v10 ?_ | with_reducible refine s_u10 ?_ | with_reducible refine e_v11 ?_ | with_reducible refine g_v11 ?_ | with_reducible refine s_u11 ?_ | with_reducible refine e_v12 ?_ | with_reducible refine g_v12 ?_ | with_reducible refine s_u12 ?_ | with_reducible refine e_v13 ?_ | with_reducible refine g_v13 ?_ | with_reducible refine s_u13 ?_ | with_reducible refine e_v14 ?_ | with_reducible refine g_v14 ?_ | with_reducible refine s_u14 ?_ | with_reducible refine e_v15 ?_ | with_reducible refine g_v15 ?_ | with_reducible refine s_u15 ?_ | with_reducible refine e_v16 ?_ | with_reducible refine g_v16 ?_ | with_reducible refine s_u16 ?_ | with_reducible refine e_v17 ?_ | with_reducible refine g_v17 ?_ | with_reducible refine s_u17 ?_ | with_reducible refine e_v18 ?_ | with_reducible refine g_v18 ?_ | with_reducible refine s_u18 ?_ | with_reducible refine e_v19 ?_ | with_reducible refine g_v19 ?_ | with_reducible refine s_u19 ?_ | ((with_reducible refine e_lc' (ρ' := ?rr) ?hw ?_); (case hw => (dsimp only [wipeW, List.map, List.set]; exact rfl))) | ((with_reducible refine g_tup ?hl ?_); (case hl => exact rfl)) | with_reducible refine b_mod (by first | decide | omega) ?_ | ((with_reducible refine b_pow (pow_ok (by decide) (by decide) (by decide)) ?_); simp only [Int.reduceToNat, Int.reducePow]) | with_reducible refine le_and (by simp only [List.length_cons, List.length_nil]; decide) ?_ | with_reducible refine l_intB ?_ | with_reducible refine l_intI ?_ | with_reducible refine sl_f ?_ | (refine l_len (by exact rfl) (q := ?_); skip) | (refine l_list (by exact rfl) ?_; skip) | (refine ix_t (by exact rfl) ?_; skip))

theorem od_s {S : Sto} {x : Str} (h : Nme x) : Od S (.str x) := .str x h.can (by have := h.nm.len; omega)
theorem od_eO {S : Sto} {x : En} (h : Nme x.1 ∧ Nme x.2.1) : ∀ w ∈ [W.str x.1, .str x.2.1, .int x.2.2], Od S w := fun w hw => by
  simp only [List.mem_cons, List.not_mem_nil, or_false] at hw
  rcases hw with rfl | rfl | rfl
  · exact od_s h.1
  · exact od_s h.2
  · exact .int _
theorem od_eN {S : Sto} {x : Nb} (h : Nme x.1) : ∀ w ∈ [W.str x.1, .int x.2.1, .int x.2.2.1, .int x.2.2.2], Od S w := fun w hw => by
  simp only [List.mem_cons, List.not_mem_nil, or_false] at hw
  rcases hw with rfl | rfl | rfl | rfl
  · exact od_s h
  · exact .int _
  · exact .int _
  · exact .int _
theorem rw_eO {S : Sto} {A : List En} (h : ∀ x ∈ A, Nme x.1 ∧ Nme x.2.1) : ∀ w ∈ A.map eO, Rw S w := fun w hw => by
  obtain ⟨x, hx, rfl⟩ := List.mem_map.mp hw
  exact .tup _ (od_eO (h x hx))
def chgF (v : Int) : W → W
  | .tup us => .tup (cutW us none (some 2) ++ [.int v])
  | w => w
theorem rw_chg {S : Sto} {x : En} {v : Int} (h : Nme x.1 ∧ Nme x.2.1) : Rw S (chgF v (eO x)) := .tup _ fun w hw => by
  rcases List.mem_append.mp hw with hw | hw
  · exact od_eO h w (mem_cut hw)
  · rw [List.mem_singleton.mp hw]; exact .int v
def spDays : MP.Spec := fun ws S Q _ => ∃ (town : List Nb) (A B : List En) (n : Int), ws = [.lst (town.map eN), .tup [.lst (A.map eO), .lst (B.map eO)], .int n] ∧ TownOk town ∧ (∀ x ∈ A, Nme x.1 ∧ Nme x.2.1) ∧ (∀ x ∈ B, Nme x.1 ∧ Nme x.2.1) ∧ A.length ≤ 20 ∧ B.length ≤ 20 ∧ 0 ≤ n ∧ n < TP ∧
  ∀ ds, (∀ d ∈ ds, Dy S d) → Q (.lst ds) S
theorem dy2 {S : Sto} {us vs : List W} (h1 : ∀ w ∈ us, Rw S w) (h2 : ∀ w ∈ vs, Rw S w) (l1 : us.length ≤ 100) (l2 : vs.length ≤ 100) : Dy S (.tup [.lst us, .lst vs]) := .tup _ fun w hw => by
  simp only [List.mem_cons, List.not_mem_nil, or_false] at hw
  rcases hw with rfl | rfl
  · exact .lst _ h1 l1
  · exact .lst _ h2 l2
theorem ok_days {Φ : Nat → MP.Spec} {ws : List W} {S : Sto} {Q : WK} {X X0 : XC} (h : spDays ws S Q X) : wps Φ c25 (startW N25 ws) S (dEnds Q X0) := by
  obtain ⟨town, A, B, n, rfl, hT, hA, hB, lA, lB, n0, n1, q⟩ := h
  unfold c25
  show wps Φ _ [some (.lst (town.map eN)), some (.tup [.lst (A.map eO), .lst (B.map eO)]), some (.int n), none, none, none, none, none] S (dEnds Q X0)
  have sub : ∀ {C : List En} {lo hi : Option Int} {x : W}, (∀ x ∈ C, Nme x.1 ∧ Nme x.2.1) → x ∈ cutW (C.map eO) lo hi → ∃ y : En, x = eO y ∧ Nme y.1 ∧ Nme y.2.1 := fun hC hx => by
    obtain ⟨y, hy, rfl⟩ := List.mem_map.mp (mem_cut hx)
    exact ⟨y, rfl, hC y hy⟩
  have rch : ∀ {C : List En} {lo hi : Option Int} {v : Int}, (∀ x ∈ C, Nme x.1 ∧ Nme x.2.1) → ∀ w ∈ (cutW (C.map eO) lo hi).map (chgF v), Rw S w := fun hC w hw => by
    obtain ⟨x, hx, rfl⟩ := List.mem_map.mp hw
    obtain ⟨y, rfl, hy⟩ := sub hC hx
    exact rw_chg hy
  have lch : ∀ {C : List En} {lo hi : Option Int} {v : Int}, C.length ≤ 20 → ((cutW (C.map eO) lo hi).map (chgF v)).length ≤ 20 := fun {C lo hi v} hC => by
    have := len_cut (ws := C.map eO) (lo := lo) (hi := hi)
    rw [List.length_map] at this ⊢
    omega
  repeat' contradiction
  refine ⟨_, rfl, ?_⟩
  refine lc_mi (chgF 1) rfl (le_line (by have := len_cut (ws := B.map eO) (lo := none) (hi := some 1); rw [List.length_map] at this; omega)) (fun x hx K hK => ?_) ?_
  · obtain ⟨y, rfl, hy⟩ := sub hB hx
    repeat' contradiction
    refine sl_t ?_
    repeat' contradiction
    exact b_tupl (le_line (by have := len_cut (ws := [W.str y.1, .str y.2.1, .int y.2.2]) (lo := none) (hi := some 2); simp only [List.length_cons, List.length_nil] at this ⊢; omega)) hK
  repeat' contradiction
  refine b_cat rfl rfl (le_line (by have := lch (lo := none) (hi := some 1) (v := 1) lB; rw [List.length_map] at this ⊢; rw [List.length_map]; omega)) ?_
  repeat' contradiction
  refine mk_t fun p hp => ?_
  repeat' contradiction
  refine m_rcv rfl sup_same ?_
  repeat' contradiction
  refine ⟨_, rfl, ?_⟩
  refine lc_mi (chgF 2) rfl (le_line (by have := len_cut (ws := A.map eO) (lo := some (-1)) (hi := none); rw [List.length_map] at this; omega)) (fun x hx K hK => ?_) ?_
  · obtain ⟨y, rfl, hy⟩ := sub hA hx
    repeat' contradiction
    refine sl_t ?_
    repeat' contradiction
    exact b_tupl (le_line (by have := len_cut (ws := [W.str y.1, .str y.2.1, .int y.2.2]) (lo := none) (hi := some 2); simp only [List.length_cons, List.length_nil] at this ⊢; omega)) hK
  repeat' contradiction
  refine b_cat rfl rfl (le_line (by have := lch (lo := some (-1)) (hi := none) (v := 2) lA; rw [List.length_map] at this ⊢; rw [List.length_map]; omega)) ?_
  repeat' contradiction
  refine m_app sup_same (lt_line (by simp only [List.length_cons, List.length_nil]; omega)) ?_
  rw [sup_sup]
  have d1 : Dy S (.tup [.lst (A.map eO ++ (cutW (B.map eO) none (some 1)).map (chgF 1)), .lst (B.map eO)]) := dy2 (fun w hw => (List.mem_append.mp hw).elim (rw_eO hA w) (rch hB w)) (rw_eO hB) (by have := lch (lo := none) (hi := some 1) (v := 1) lB; rw [List.length_append, List.length_map]; omega) (by rw [List.length_map]; omega)
  have d2 : Dy S (.tup [.lst (A.map eO), .lst (B.map eO ++ (cutW (A.map eO) (some (-1)) none).map (chgF 2))]) := dy2 (rw_eO hA) (fun w hw => (List.mem_append.mp hw).elim (rw_eO hB w) (rch hA w)) (by rw [List.length_map]; omega) (by have := lch (lo := some (-1)) (hi := none) (v := 2) lA; rw [List.length_append, List.length_map]; omega)
  have dd : ∀ d ∈ [W.tup [.lst (A.map eO ++ (cutW (B.map eO) none (some 1)).map (chgF 1)), .lst (B.map eO)]] ++ [W.tup [.lst (A.map eO), .lst (B.map eO ++ (cutW (A.map eO) (some (-1)) none).map (chgF 2))]], Dy S d := fun d hd => by
    rcases List.mem_append.mp hd with hd | hd
    · rw [List.mem_singleton.mp hd]; exact d1
    · rw [List.mem_singleton.mp hd]; exact d2
  have ld : ([W.tup [.lst (A.map eO ++ (cutW (B.map eO) none (some 1)).map (chgF 1)), .lst (B.map eO)]] ++ [W.tup [.lst (A.map eO), .lst (B.map eO ++ (cutW (A.map eO) (some (-1)) none).map (chgF 2))]]).length ≤ 2 := by simp
  generalize [W.tup [.lst (A.map eO ++ (cutW (B.map eO) none (some 1)).map (chgF 1)), .lst (B.map eO)]] ++ [W.tup [.lst (A.map eO), .lst (B.map eO ++ (cutW (A.map eO) (some (-1)) none).map (chgF 2))]] = ds at dd ld ⊢
  repeat' contradiction
  rw [List.length_map]
  refine LD.ite_d (fun c => ?_) (fun c => ?_)
  · have t12 : town.length = 12 := by omega
    repeat' contradiction
    refine rg1 (by omega) ?_
    refine lc_inv (fun i acc S' => S' = sup S p (.lst ds) ∧ acc.length = i ∧ ∀ w ∈ acc, Rw S w) ⟨rfl, rfl, fun _ h => nomatch h⟩ (fun _ _ _ _ => trivial) (fun i w acc S' hw h K hK => ?_) (fun acc S' h => ?_)
    · obtain ⟨rfl, la, ra⟩ := h
      unfold rngW at hw
      rw [List.getElem?_map] at hw
      have hi : i < (40 + n % 2).toNat := by
        cases e : (List.range (40 + n % 2).toNat)[i]? with
        | none => rw [e] at hw; cases hw
        | some z =>
          have := (List.getElem?_eq_some_iff.mp e).1
          rwa [List.length_range] at this
      rw [List.getElem?_range hi] at hw
      cases hw
      have m0 := Int.emod_nonneg n (show (2 : Int) ≠ 0 by decide)
      have m1 := Int.emod_lt_of_pos n (show (0 : Int) < 2 by decide)
      repeat' contradiction
      refine iteT' rfl ?_
      repeat' contradiction
      have j0 := Int.emod_nonneg (0 + (i : Int)) (show (12 : Int) ≠ 0 by decide)
      have j1 := Int.emod_lt_of_pos (0 + (i : Int)) (show (0 : Int) < 12 by decide)
      obtain ⟨x, hx⟩ : ∃ x, town[((0 + (i : Int)) % 12).toNat]? = some x := ⟨town[((0 + (i : Int)) % 12).toNat]'(by omega), List.getElem?_eq_getElem _⟩
      refine ix_map j0 hx ?_
      repeat' contradiction
      refine b_div (div_ok (by decide) (by decide)) ?_
      repeat' contradiction
      refine ix_txt (n := 4) (by decide +kernel) (by decide) (by decide +kernel) (Int.ediv_nonneg (by omega) (by decide)) (by omega) fun y yl yc => ?_
      refine b_str (by rw [yl]; decide +kernel) ?_
      repeat' contradiction
      refine ⟨lt_line (by omega), hK _ _ ⟨rfl, by rw [List.length_append, la]; rfl, fun w hw => ?_⟩⟩
      rcases List.mem_append.mp hw with hw | hw
      · exact ra w hw
      · rw [List.mem_singleton.mp hw]
        refine .tup _ fun w hw => ?_
        simp only [List.mem_cons, List.not_mem_nil, or_false] at hw
        rcases hw with rfl | rfl | rfl
        · exact od_s (hT.nm x (List.mem_of_getElem? hx))
        · exact .str _ (can_app (by decide +kernel) yc) (by rw [app_len, yl]; decide +kernel)
        · exact .int _
    · obtain ⟨rfl, la, ra⟩ := h
      have la2 : acc.length ≤ 41 := by
        rw [la]
        unfold rngW
        rw [List.length_map, List.length_range]
        omega
      repeat' contradiction
      refine b_div (div_ok (by decide) (by decide)) ?_
      repeat' contradiction
      refine m_rcv rfl sup_same ?_
      repeat' contradiction
      refine m_app sup_same (lt_line (by omega)) ?_
      repeat' contradiction
      rw [sup_sup]
      refine s_gf3 sup_same ?_
      repeat' contradiction
      rw [sdel_sup hp]
      refine d_same (q _ fun d hd => ?_)
      rcases List.mem_append.mp hd with hd | hd
      · exact dd d hd
      · rw [List.mem_singleton.mp hd]
        have l1 := fun lo hi => len_cut (ws := acc) (lo := lo) (hi := hi)
        exact dy2 (fun w hw => ra w (mem_cut hw)) (fun w hw => ra w (mem_cut hw)) (by have := l1 none (some (n / 2 % ((acc.length : Nat) + 1))); omega) (by have := l1 (some (n / 2 % ((acc.length : Nat) + 1))) none; omega)
  · repeat' contradiction
    refine s_gf3 sup_same ?_
    repeat' contradiction
    rw [sdel_sup hp]
    exact d_same (q _ dd)
end K01

set_option Elab.async false
set_option linter.all false
set_option maxRecDepth 100000
set_option maxHeartbeats 4000000
/-! K01l: what each def keeps. -/
namespace K01
open PySem PySem.Spec PyProof.Rows L2 MP NM DK LF LG LH EX EY EZ ST LK
def Phi : Nat → MP.Spec
  | 0 => EX.spIsName
  | 1 => spWhole
  | 2 => EY.spIsRow
  | 3 => spNeigh
  | 4 => spNeedT
  | 5 => spTold
  | 6 => spSkl
  | 7 => spNeedD
  | 8 => LK.spMixed
  | 9 => LK.spTurned
  | 10 => LK.spName
  | 11 => LK.spSize
  | 12 => LL.spTown
  | 13 => LL.spDay
  | 14 => spWhole
  | 15 => spLName
  | 16 => spNeigh
  | 17 => spGoodT
  | 18 => spTold
  | 19 => spGoodD
  | 20 => spOdd
  | 21 => spChg
  | 22 => spBent
  | 23 => spRef
  | 24 => spSkl
  | 25 => spDays
  | 26 => spWords
  | 27 => lawSpec 63
  | _ => fun _ _ _ _ => False
theorem p0 : Phi 0 = EX.spIsName := rfl
theorem p1 : Phi 1 = spWhole := rfl
theorem p2 : Phi 2 = EY.spIsRow := rfl
theorem p3 : Phi 3 = spNeigh := rfl
theorem p4 : Phi 4 = spNeedT := rfl
theorem p5 : Phi 5 = spTold := rfl
theorem p6 : Phi 6 = spSkl := rfl
theorem p7 : Phi 7 = spNeedD := rfl
theorem p8 : Phi 8 = LK.spMixed := rfl
theorem p9 : Phi 9 = LK.spTurned := rfl
theorem p10 : Phi 10 = LK.spName := rfl
theorem p11 : Phi 11 = LK.spSize := rfl
theorem p12 : Phi 12 = LL.spTown := rfl
theorem p13 : Phi 13 = LL.spDay := rfl
theorem p14 : Phi 14 = spWhole := rfl
theorem p15 : Phi 15 = spLName := rfl
theorem p16 : Phi 16 = spNeigh := rfl
theorem p17 : Phi 17 = spGoodT := rfl
theorem p18 : Phi 18 = spTold := rfl
theorem p19 : Phi 19 = spGoodD := rfl
theorem p20 : Phi 20 = spOdd := rfl
theorem p21 : Phi 21 = spChg := rfl
theorem p22 : Phi 22 = spBent := rfl
theorem p23 : Phi 23 = spRef := rfl
theorem p24 : Phi 24 = spSkl := rfl
theorem p25 : Phi 25 = spDays := rfl
theorem p26 : Phi 26 = spWords := rfl
theorem len0 : ∀ ws S Q X, Phi 0 ws S Q X → ws.length = P0.length := by rintro _ _ _ _ ⟨_, _, rfl, _⟩; rfl
theorem len1 : ∀ ws S Q X, Phi 1 ws S Q X → ws.length = P1.length := by rintro _ _ _ _ ⟨_, _, _, _, rfl, _⟩; rfl
theorem len2 : ∀ ws S Q X, Phi 2 ws S Q X → ws.length = P2.length := by rintro _ _ _ _ ⟨_, _, _, rfl, _⟩; rfl
theorem len3 : ∀ ws S Q X, Phi 3 ws S Q X → ws.length = P3.length := by rintro _ _ _ _ ⟨_, rfl, _⟩; rfl
theorem len4 : ∀ ws S Q X, Phi 4 ws S Q X → ws.length = P4.length := by rintro _ _ _ _ ⟨_, rfl, _⟩; rfl
theorem len5 : ∀ ws S Q X, Phi 5 ws S Q X → ws.length = P5.length := by rintro _ _ _ _ ⟨_, _, rfl, _⟩; rfl
theorem len6 : ∀ ws S Q X, Phi 6 ws S Q X → ws.length = P6.length := by rintro _ _ _ _ ⟨_, _, rfl, _⟩; rfl
theorem len7 : ∀ ws S Q X, Phi 7 ws S Q X → ws.length = P7.length := by rintro _ _ _ _ ⟨_, _, rfl, _⟩; rfl
theorem len8 : ∀ ws S Q X, Phi 8 ws S Q X → ws.length = P8.length := by rintro _ _ _ _ ⟨_, _, rfl, _⟩; rfl
theorem len9 : ∀ ws S Q X, Phi 9 ws S Q X → ws.length = P9.length := by rintro _ _ _ _ ⟨_, _, rfl, _⟩; rfl
theorem len10 : ∀ ws S Q X, Phi 10 ws S Q X → ws.length = P10.length := by rintro _ _ _ _ ⟨_, _, rfl, _⟩; rfl
theorem len11 : ∀ ws S Q X, Phi 11 ws S Q X → ws.length = P11.length := by rintro _ _ _ _ ⟨_, rfl, _⟩; rfl
theorem len12 : ∀ ws S Q X, Phi 12 ws S Q X → ws.length = P12.length := by rintro _ _ _ _ ⟨_, _, rfl, _⟩; rfl
theorem len13 : ∀ ws S Q X, Phi 13 ws S Q X → ws.length = P13.length := by rintro _ _ _ _ ⟨_, _, _, rfl, _⟩; rfl
theorem len14 : ∀ ws S Q X, Phi 14 ws S Q X → ws.length = P14.length := by rintro _ _ _ _ ⟨_, _, _, _, rfl, _⟩; rfl
theorem len15 : ∀ ws S Q X, Phi 15 ws S Q X → ws.length = P15.length := by rintro _ _ _ _ ⟨_, _, rfl, _⟩; rfl
theorem len16 : ∀ ws S Q X, Phi 16 ws S Q X → ws.length = P16.length := by rintro _ _ _ _ ⟨_, rfl, _⟩; rfl
theorem len17 : ∀ ws S Q X, Phi 17 ws S Q X → ws.length = P17.length := by rintro _ _ _ _ ⟨_, rfl, _⟩; rfl
theorem len18 : ∀ ws S Q X, Phi 18 ws S Q X → ws.length = P18.length := by rintro _ _ _ _ ⟨_, _, rfl, _⟩; rfl
theorem len19 : ∀ ws S Q X, Phi 19 ws S Q X → ws.length = P19.length := by rintro _ _ _ _ ⟨_, _, rfl, _⟩; rfl
theorem len20 : ∀ ws S Q X, Phi 20 ws S Q X → ws.length = P20.length := by rintro _ _ _ _ ⟨_, rfl, _⟩; rfl
theorem len21 : ∀ ws S Q X, Phi 21 ws S Q X → ws.length = P21.length := by rintro _ _ _ _ ⟨_, _, rfl, _⟩; rfl
theorem len22 : ∀ ws S Q X, Phi 22 ws S Q X → ws.length = P22.length := by rintro _ _ _ _ ⟨_, _, _, rfl, _⟩; rfl
theorem len23 : ∀ ws S Q X, Phi 23 ws S Q X → ws.length = P23.length := by
  rintro _ _ _ _ (⟨_, _, rfl, _⟩ | ⟨_, _, rfl, _⟩) <;> rfl
theorem len24 : ∀ ws S Q X, Phi 24 ws S Q X → ws.length = P24.length := by rintro _ _ _ _ ⟨_, _, rfl, _⟩; rfl
theorem len25 : ∀ ws S Q X, Phi 25 ws S Q X → ws.length = P25.length := by rintro _ _ _ _ ⟨_, _, _, _, rfl, _⟩; rfl
theorem len26 : ∀ ws S Q X, Phi 26 ws S Q X → ws.length = P26.length := by rintro _ _ _ _ ⟨_, rfl, _⟩; rfl
theorem len27 : ∀ ws S Q X, Phi 27 ws S Q X → ws.length = P27.length := by rintro _ _ _ _ ⟨_, rfl, _⟩; rfl

theorem ok0 : ∀ ws S Q X, Phi 0 ws S Q X → wps Phi c0 (startW N0 ws) S (dEnds Q XN) := fun _ _ _ X h => EX.ok_is_name (X := X) h
theorem ok1 : ∀ ws S Q X, Phi 1 ws S Q X → wps Phi c1 (startW N1 ws) S (dEnds Q XN) := fun _ _ _ X h => ok_whole (X := X) h
theorem ok2 : ∀ ws S Q X, Phi 2 ws S Q X → wps Phi c2 (startW N2 ws) S (dEnds Q XN) := fun _ _ _ X h => EY.ok_is_row (X := X) h
theorem ok3 : ∀ ws S Q X, Phi 3 ws S Q X → wps Phi c3 (startW N3 ws) S (dEnds Q XN) := fun _ _ _ X h => ok_neigh (X := X) p0 p1 p2 h
theorem ok5 : ∀ ws S Q X, Phi 5 ws S Q X → wps Phi c5 (startW N5 ws) S (dEnds Q XN) := fun _ _ _ X h => ok_told (X := X) p0 p1 p2 h
theorem ok6 : ∀ ws S Q X, Phi 6 ws S Q X → wps Phi c6 (startW N6 ws) S (dEnds Q XN) := fun _ _ _ X h => ok_skl (X := X) h
theorem ok8 : ∀ ws S Q X, Phi 8 ws S Q X → wps Phi c8 (startW N8 ws) S (dEnds Q XN) := fun _ _ _ X h => LK.ok_mixed (X := X) h
theorem ok9 : ∀ ws S Q X, Phi 9 ws S Q X → wps Phi c9 (startW N9 ws) S (dEnds Q XN) := fun _ _ _ X h => LK.ok_turned (X := X) h
theorem ok10 : ∀ ws S Q X, Phi 10 ws S Q X → wps Phi c10 (startW N10 ws) S (dEnds Q XN) := fun _ _ _ X h => LK.ok_name (X := X) p9 h
theorem ok11 : ∀ ws S Q X, Phi 11 ws S Q X → wps Phi c11 (startW N11 ws) S (dEnds Q XN) := fun _ _ _ X h => LK.ok_size (X := X) h
theorem ok12 : ∀ ws S Q X, Phi 12 ws S Q X → wps Phi c12 (startW N12 ws) S (dEnds Q XN) := fun _ _ _ X h => LL.ok_town (X := X) p11 p10 p9 h
theorem ok13 : ∀ ws S Q X, Phi 13 ws S Q X → wps Phi c13 (startW N13 ws) S (dEnds Q XN) := fun _ _ _ X h => LL.ok_day (X := X) p9 p10 h
theorem ok14 : ∀ ws S Q X, Phi 14 ws S Q X → wps Phi c14 (startW N14 ws) S (dEnds Q XN) := fun _ _ _ X h => ok_number (X := X) h
theorem ok15 : ∀ ws S Q X, Phi 15 ws S Q X → wps Phi c15 (startW N15 ws) S (dEnds Q XN) := fun _ _ _ X h => ok_lname (X := X) h
theorem ok16 : ∀ ws S Q X, Phi 16 ws S Q X → wps Phi c16 (startW N16 ws) S (dEnds Q XN) := fun _ _ _ X h => ok_good1 (X := X) p14 p15 h
theorem ok17 : ∀ ws S Q X, Phi 17 ws S Q X → wps Phi c17 (startW N17 ws) S (dEnds Q XN) := fun _ _ _ X h => ok_goodT (X := X) p16 h
theorem ok18 : ∀ ws S Q X, Phi 18 ws S Q X → wps Phi c18 (startW N18 ws) S (dEnds Q XN) := fun _ _ _ X h => ok_goodTold (X := X) p14 p15 h
theorem ok19 : ∀ ws S Q X, Phi 19 ws S Q X → wps Phi c19 (startW N19 ws) S (dEnds Q XN) := fun _ _ _ X h => ok_goodD (X := X) p18 h
theorem ok20 : ∀ ws S Q X, Phi 20 ws S Q X → wps Phi c20 (startW N20 ws) S (dEnds Q XN) := fun _ _ _ X h => ok_odd (X := X) h
theorem ok21 : ∀ ws S Q X, Phi 21 ws S Q X → wps Phi c21 (startW N21 ws) S (dEnds Q XN) := fun _ _ _ X h => ok_chg (X := X) p20 h
theorem ok22 : ∀ ws S Q X, Phi 22 ws S Q X → wps Phi c22 (startW N22 ws) S (dEnds Q XN) := fun _ _ _ X h => ok_bent (X := X) p21 h
theorem ok23 : ∀ ws S Q X, Phi 23 ws S Q X → wps Phi c23 (startW N23 ws) S (dEnds Q XN) := fun _ _ _ X h => ok_ref (X := X) p4 p7 h
theorem ok24 : ∀ ws S Q X, Phi 24 ws S Q X → wps Phi c24 (startW N24 ws) S (dEnds Q XN) := fun _ _ _ X h => ok_lskl (X := X) h
theorem ok25 : ∀ ws S Q X, Phi 25 ws S Q X → wps Phi c25 (startW N25 ws) S (dEnds Q XN) := fun _ _ _ X h => ok_days (X := X) h
theorem ok26 : ∀ ws S Q X, Phi 26 ws S Q X → wps Phi c26 (startW N26 ws) S (dEnds Q XN) := fun _ _ _ X h => ok_words (X := X) p0 p1 p10 p14 p15 p20 h
theorem ok4 : ∀ ws S Q X, Phi 4 ws S Q X → wps Phi c4 (startW N4 ws) S (dEnds Q X) := fun _ _ _ _ h => ok_needT p3 h
theorem ok7 : ∀ ws S Q X, Phi 7 ws S Q X → wps Phi c7 (startW N7 ws) S (dEnds Q X) := fun _ _ _ _ h => ok_needD p2 p5 p6 h
theorem nmn4 : ∀ ws S Q X, Phi 4 ws S Q X → ∀ e S', X e S' → e.nm = none := by
  rintro _ _ _ _ ⟨_, _, _, _, _, h⟩
  exact h
theorem nmn7 : ∀ ws S Q X, Phi 7 ws S Q X → ∀ e S', X e S' → e.nm = none := by
  rintro _ _ _ _ ⟨_, _, _, _, _, _, _, _, h⟩
  exact h
end K01

set_option Elab.async false
set_option linter.all false
set_option maxRecDepth 100000
set_option maxHeartbeats 4000000
/-! K01m: the law's own def. -/
namespace K01
open PySem PySem.Spec PyProof.Rows L2 MP NM DK LF LG LH EX EY EZ ST LK
local macro_rules
  | `(tactic| contradiction) => `(tactic| first | with_reducible refine d_in ?_ | with_reducible refine s_nil ?_ | with_reducible refine s_seq ?_ | with_reducible refine s_asg ?_ | with_reducible refine s_par ?_ | with_reducible refine s_expr ?_ | with_reducible refine s_ret ?_ | with_reducible refine s_retN ?_ | with_reducible refine s_iff ?_ | with_reducible refine s_fr ?_ | with_reducible refine s_cont ?_ | with_reducible refine s_brk ?_ | with_reducible refine s_pass ?_ | with_reducible refine s_augS ?_ | with_reducible refine e_int ?_ | with_reducible refine e_str ?_ | with_reducible refine e_bool ?_ | with_reducible refine e_none ?_ | with_reducible refine e_bin ?_ | with_reducible refine e_neg ?_ | with_reducible refine e_nt ?_ | with_reducible refine e_cmp ?_ | with_reducible refine e_chain ?_ | with_reducible refine e_an ?_ | with_reducible refine e_or ?_ | with_reducible refine an_1 ?_ | with_reducible refine an_2 ?_ | with_reducible refine or_1 ?_ | with_reducible refine or_2 ?_ | with_reducible refine e_ife ?_ | with_reducible refine e_call ?_ | with_reducible refine e_blt ?_ | with_reducible refine e_mth ?_ | with_reducible refine e_idx ?_ | with_reducible refine e_slc ?_ | with_reducible refine e_rev ?_ | with_reducible refine e_tup ?_ | with_reducible refine e_lst ?_ | with_reducible refine e_dnew ?_ | with_reducible refine e_dct ?_ | with_reducible refine e_isi ?_ | with_reducible refine e_lrg ?_ | with_reducible refine e_lzip ?_ | with_reducible refine e_stp ?_ | with_reducible refine e_sset ?_ | with_reducible refine es_n ?_ | with_reducible refine es_c ?_ | with_reducible refine o_nil ?_ | with_reducible refine o_var ?_ | with_reducible refine o_cst ?_ | with_reducible refine o_bin ?_ | with_reducible refine o_neg ?_ | with_reducible refine o_blt ?_ | with_reducible refine o_call ?_ | with_reducible refine ik ?_ | with_reducible refine ng ?_ | with_reducible refine tq_bl ?_ | with_reducible refine tq_int ?_ | with_reducible refine tq_non ?_ | with_reducible refine tq_lst ?_ | with_reducible refine tq_tup ?_ | with_reducible refine t_var ?_ | with_reducible refine t_call ?_ | with_reducible refine t_blt ?_ | with_reducible refine t_mth ?_ | with_reducible refine t_idx ?_ | with_reducible refine t_isi ?_ | with_reducible refine t_cst ?_ | with_reducible refine t_nt ?_ | with_reducible refine t_cmp ?_ | with_reducible refine t_chain ?_ | with_reducible refine t_an ?_ | with_reducible refine t_or ?_ | with_reducible refine ant_1 ?_ | with_reducible refine ant_2 ?_ | with_reducible refine ort_1 ?_ | with_reducible refine ort_2 ?_ | with_reducible refine tr_bl ?_ | with_reducible refine tr_int ?_ | with_reducible refine tr_lst ?_ | with_reducible refine tr_non ?_ | with_reducible refine c_nil ?_ | with_reducible refine c_one ?_ | with_reducible refine g_sub ?_ | with_reducible refine gs_n ?_ | with_reducible refine gs_c ?_ | with_reducible refine i_seq ?_ | with_reducible refine i_rng1 ?_ | with_reducible refine i_rng2 ?_ | with_reducible refine i_rng3 ?_ | with_reducible refine i_zip ?_ | with_reducible refine i_enm ?_ | with_reducible refine b_add ?_ | with_reducible refine b_sub ?_ | with_reducible refine c_lt ?_ | with_reducible refine c_le ?_ | with_reducible refine c_gt ?_ | with_reducible refine c_ge ?_ | with_reducible refine mk_f ?_ | with_reducible refine ref_and ?_ | with_reducible refine u_set ?_ | with_reducible refine eq_i ?_ | with_reducible refine ne_i ?_ | with_reducible refine eq_b ?_ | with_reducible refine ne_b ?_ | with_reducible refine is_b ?_ | with_reducible refine isn_b ?_ | with_reducible refine is_n ?_ | with_reducible refine isn_n ?_ | with_reducible refine e_v0 ?_ | with_reducible refine g_v0 ?_ | with_reducible refine s_u0 ?_ | with_reducible refine e_v1 ?_ | with_reducible refine g_v1 ?_ | with_reducible refine s_u1 ?_ | with_reducible refine e_v2 ?_ | with_reducible refine g_v2 ?_ | with_reducible refine s_u2 ?_ | with_reducible refine e_v3 ?_ | with_reducible refine g_v3 ?_ | with_reducible refine s_u3 ?_ | with_reducible refine e_v4 ?_ | with_reducible refine g_v4 ?_ | with_reducible refine s_u4 ?_ | with_reducible refine e_v5 ?_ | with_reducible refine g_v5 ?_ | with_reducible refine s_u5 ?_ | with_reducible refine e_v6 ?_ | with_reducible refine g_v6 ?_ | with_reducible refine s_u6 ?_ | with_reducible refine e_v7 ?_ | with_reducible refine g_v7 ?_ | with_reducible refine s_u7 ?_ | with_reducible refine e_v8 ?_ | with_reducible refine g_v8 ?_ | with_reducible refine s_u8 ?_ | with_reducible refine e_v9 ?_ | with_reducible refine g_v9 ?_ | with_reducible refine s_u9 ?_ | with_reducible refine e_v10 ?_ | with_reducible refine g_v10 ?_ | with_reducible refine s_u10 ?_ | with_reducible refine e_v11 ?_ | with_reducible refine g_v11 ?_ | with_reducible refine s_u11 ?_ | with_reducible refine e_v12 ?_ | with_reducible refine g_v12 ?_ | with_reducible refine s_u12 ?_ | with_reducible refine e_v13 ?_ | with_reducible refine g_v13 ?_ | with_reducible refine s_u13 ?_ | with_reducible refine e_v14 ?_ | with_reducible refine g_v14 ?_ | with_reducible refine s_u14 ?_ | with_reducible refine e_v15 ?_ | with_reducible refine g_v15 ?_ | with_reducible refine s_u15 ?_ | with_reducible refine e_v16 ?_ | with_reducible refine g_v16 ?_ | with_reducible refine s_u16 ?_ | with_reducible refine e_v17 ?_ | with_reducible refine g_v17 ?_ | with_reducible refine s_u17 ?_ | with_reducible refine e_v18 ?_ | with_reducible refine g_v18 ?_ | with_reducible refine s_u18 ?_ | with_reducible refine e_v19 ?_ | with_reducible refine g_v19 ?_ | with_reducible refine s_u19 ?_ | ((with_reducible refine e_lc' (ρ' := ?rr) ?hw ?_); (case hw => (dsimp only [wipeW, List.map, List.set]; exact rfl))) | ((with_reducible refine g_tup ?hl ?_); (case hl => exact rfl)) | with_reducible refine b_mod (by first | decide | omega) ?_ | ((with_reducible refine b_pow (pow_ok (by decide) (by decide) (by decide)) ?_); simp only [Int.reduceToNat, Int.reducePow]) | with_reducible refine le_and (by simp only [List.length_cons, List.length_nil]; decide) ?_ | with_reducible refine l_intB ?_ | with_reducible refine l_intI ?_ | with_reducible refine sl_f ?_ | (refine l_len (by exact rfl) (q := ?_); skip) | (refine l_list (by exact rfl) ?_; skip) | (refine ix_t (by exact rfl) ?_; skip))

theorem townB_ok {town : List Nb} (h : TownOk town) (hl : town.length ≤ 12) : townB (.lst (town.map eN)) = true := by
  show (decide ((town.map eN).length ≤ 12) && (town.map eN).all neighB && decide (((town.map eN).map hdS).Nodup)) = true
  rw [hd_map, decide_eq_true (by rw [List.length_map]; omega), decide_eq_true h.nd, Bool.true_and, Bool.and_true, List.all_map, List.all_eq_true]
  intro x hx
  have b := h.bd x hx
  show (nameB (.str x.1) && (whB (.int x.2.1) && whB (.int x.2.2.1) && whB (.int x.2.2.2)) && (decide (x.2.2.1 ≤ x.2.1) && decide (x.2.1 ≤ x.2.2.2))) = true
  have w : ∀ i : Int, -(10 ^ 30) ≤ i → i ≤ 10 ^ 30 → whB (.int i) = true := fun i a c => decide_eq_true ⟨a, c⟩
  rw [nameB_nme (h.nm x hx), w _ (by omega) (by omega), w _ (by omega) (by omega), w _ (by omega) (by omega), decide_eq_true b.2.1, decide_eq_true b.2.2.1]
  rfl
theorem dayB_ok {town : List Nb} {A B : List En} (h : DayOk town (A ++ B)) (hT : TownOk town) (hl : (A ++ B).length ≤ 40) (hs : (uq ((A ++ B).map (·.2.1))).length ≤ 12) : dayB (town.map (·.1)) (.tup [.lst (A.map eO), .lst (B.map eO)]) = true := by
  have all : ((A ++ B).map eO).all (toldB (town.map (·.1))) = true := by
    rw [List.all_map, List.all_eq_true]
    intro x hx
    have b := h.bd x hx
    show ((nameB (.str x.1) && nameB (.str x.2.1)) && (decide (x.1 ∈ town.map (·.1)) && hrB (.int x.2.2))) = true
    obtain ⟨y, hy, e⟩ := List.mem_map.mp (h.nm x hx)
    have w : hrB (.int x.2.2) = true := decide_eq_true b
    rw [nameB_nme (by rw [← e]; exact hT.nm y hy), nameB_nme (h.sk x hx), decide_eq_true (h.nm x hx), w]
    rfl
  rw [day_eq all hl, decide_eq_true h.nd, decide_eq_true hs]
  rfl
theorem four_uq {xs : List Str} {f : Nat → Str} (h : ∀ x ∈ xs, ∃ j : Nat, j < 4 ∧ x = f j) : (uq xs).length ≤ 12 := by
  have u := uq_nd xs
  have hs : ∀ x ∈ uq xs, x ∈ [f 0, f 1, f 2, f 3] := fun x hx => by
    obtain ⟨j, hj, rfl⟩ := h x ((u.2 x).mp hx)
    have : j = 0 ∨ j = 1 ∨ j = 2 ∨ j = 3 := by omega
    rcases this with rfl | rfl | rfl | rfl <;> simp
  have := (nd_len u.1 (m := (uq xs)) fun _ => Iff.rfl).1
  have len : ∀ {l m : List Str}, l.Nodup → (∀ x ∈ l, x ∈ m) → l.length ≤ m.length := by
    intro l
    induction l with
    | nil => intro m _ _; exact Nat.zero_le _
    | cons x l ih =>
      intro m nd h
      obtain ⟨n1, n2⟩ := List.nodup_cons.mp nd
      have hx := h x List.mem_cons_self
      have := ih (m := m.erase x) n2 fun y hy => (List.mem_erase_of_ne (fun e => n1 (by rw [← e]; exact hy))).mpr (h y (List.mem_cons_of_mem _ hy))
      have e := (List.perm_cons_erase hx).length_eq
      rw [List.length_cons] at e ⊢
      omega
  have := len u.1 hs
  simp at this
  omega
theorem pick {ws : List W} {b : Nat} {i : Int} {S : Sto} {Q : WK} (h0 : 0 ≤ i) (h : i < ws.length) (hp : ∀ w ∈ ws, ∃ m : Nat, w = .int (m : Nat) ∧ m ≤ b) (q : ∀ m : Nat, m ≤ b → Q (.int (m : Nat)) S) : idxW (.lst ws) (.int i) S Q :=
  ix_any h0 h fun w hw => by
    obtain ⟨m, rfl, hm⟩ := hp w hw
    exact q m hm
theorem rg_eN {S : Sto} {x : Nb} (h : Nme x.1) : Rg S (eN x) := ⟨_, rfl, by simp, by simp, od_eN h⟩
theorem rg_eO {S : Sto} {x : En} (h : Nme x.1 ∧ Nme x.2.1) : Rg S (eO x) := ⟨_, rfl, by simp, by simp, od_eO h⟩
/-- the dicts stay -/
def Kp (S S' : Sto) : Prop := ∀ q, S q = some (.dk []) → S' q = some (.dk [])
theorem Od.keep {S S' : Sto} {w : W} (f : Kp S S') (h : Od S w) : Od S' w := by
  cases h with
  | dic p h => exact .dic p (f p h)
  | str x a b => exact .str x a b
  | non => exact .non
  | bl b => exact .bl b
  | int i => exact .int i
  | nil => exact .nil
  | unit => exact .unit
theorem Rw.keep {S S' : Sto} {w : W} (f : Kp S S') (h : Rw S w) : Rw S' w := by
  cases h with
  | tup ws h => exact .tup ws fun w hw => (h w hw).keep f
  | lst ws h => exact .lst ws fun w hw => (h w hw).keep f
  | non => exact .non
theorem Ls.keep {S S' : Sto} {w : W} (f : Kp S S') (h : Ls S w) : Ls S' w := by
  cases h with
  | tup ws h l => exact .tup ws (fun w hw => (h w hw).keep f) l
  | lst ws h l => exact .lst ws (fun w hw => (h w hw).keep f) l
  | non => exact .non
theorem ok27 : ∀ ws S Q X, Phi 27 ws S Q X → wps Phi c27 (startW N27 ws) S (dEnds Q XN) := by
  rintro _ _ Q X ⟨ns, rfl, hn, rfl, q⟩
  unfold c27
  show wps Phi _ [some (.lst (ns.map W.int)), none, none, none, none, none, none, none, none, none, none, none] S00 (dEnds Q XN)
  repeat' contradiction
  rw [List.length_map]
  refine l_max2 fun m hm => ?_
  refine rg1 (by omega) ?_
  have m64 : m.toNat ≤ 63 := by omega
  refine for_rng (fun i ρ S => ∃ r1 r2 r3 r4 r5 r6 r7 r8 r9 r10 r11, ρ = [some (.lst (ns.map W.int)), r1, r2, r3, r4, r5, r6, r7, r8, r9, r10, r11]) ⟨_, _, _, _, _, _, _, _, _, _, _, rfl⟩ (fun _ _ _ _ => trivial) (fun i ρ S hi h K hK => ?_) (fun ρ S h => ?_)
  · obtain ⟨r1, r2, r3, r4, r5, r6, r7, r8, r9, r10, r11, rfl⟩ := h
    repeat' contradiction
    rw [p8]
    refine ⟨ns, 0 + (i : Int), rfl, hn, by omega, by omega, fun v v0 v1 => ?_⟩
    have dv : ∀ k : Int, 0 < k → 0 ≤ v / k ∧ v / k < TP := fun k hk => ⟨Int.ediv_nonneg v0 (by omega), Int.lt_of_le_of_lt (Int.ediv_le_self _ v0) (show v < (2147483648 : Int) by omega)⟩
    have tn : ∀ k : Int, 0 ≤ turnF v k ∧ turnF v k < TP := fun k => ⟨(turn_bd v k).1, Int.lt_trans (turn_bd v k).2 (by decide)⟩
    repeat' contradiction
    have i0 := Int.emod_nonneg v (show (6 : Int) ≠ 0 by decide)
    have i1 := Int.emod_lt_of_pos v (show (0 : Int) < 6 by decide)
    refine pick (b := 12) i0 (by simp only [List.length_cons, List.length_nil]; omega) (fun w hw => ?_) fun nt ht => ?_
    · simp only [List.mem_cons, List.not_mem_nil, or_false] at hw
      rcases hw with rfl | rfl | rfl | rfl | rfl | rfl
      · exact ⟨0, rfl, by decide⟩
      · exact ⟨1, rfl, by decide⟩
      · exact ⟨2, rfl, by decide⟩
      · exact ⟨3, rfl, by decide⟩
      · exact ⟨5, rfl, by decide⟩
      · exact ⟨12, rfl, by decide⟩
    repeat' contradiction
    rw [p12]
    refine ⟨v, nt, rfl, v0, by omega, ht, fun town tl hT => ?_⟩
    have tl : town.length ≤ 12 := by omega
    repeat' contradiction
    refine b_div (div_ok (by decide) (by decide)) ?_
    repeat' contradiction
    have k0 := Int.emod_nonneg (v / 6) (show (5 : Int) ≠ 0 by decide)
    have k1 := Int.emod_lt_of_pos (v / 6) (show (0 : Int) < 5 by decide)
    refine pick (b := 20) k0 (by simp only [List.length_cons, List.length_nil]; omega) (fun w hw => ?_) fun nd hd => ?_
    · simp only [List.mem_cons, List.not_mem_nil, or_false] at hw
      rcases hw with rfl | rfl | rfl | rfl | rfl
      · exact ⟨0, rfl, by decide⟩
      · exact ⟨1, rfl, by decide⟩
      · exact ⟨4, rfl, by decide⟩
      · exact ⟨9, rfl, by decide⟩
      · exact ⟨20, rfl, by decide⟩
    repeat' contradiction
    rw [p13]
    refine ⟨town, v, nd, rfl, v0, by omega, hd, hT, tl, fun A B hD dl hJ => ?_⟩
    have lA : A.length ≤ 20 := by omega
    have lB : B.length ≤ 20 := by omega
    have nA : ∀ x ∈ A, Nme x.1 ∧ Nme x.2.1 := fun x hx => by
      have hx := List.mem_append_left B hx
      obtain ⟨y, hy, e⟩ := List.mem_map.mp (hD.nm x hx)
      exact ⟨by rw [← e]; exact hT.nm y hy, hD.sk x hx⟩
    have nB : ∀ x ∈ B, Nme x.1 ∧ Nme x.2.1 := fun x hx => by
      have hx := List.mem_append_right A hx
      obtain ⟨y, hy, e⟩ := List.mem_map.mp (hD.nm x hx)
      exact ⟨by rw [← e]; exact hT.nm y hy, hD.sk x hx⟩
    have tB := townB_ok hT tl
    have dB := dayB_ok hD hT (by rw [List.length_append]; omega) (four_uq (f := nmK (v / 3)) fun x hx => by
      obtain ⟨y, hy, rfl⟩ := List.mem_map.mp hx
      exact hJ y hy)
    have lsT : ∀ S : Sto, Ls S (.lst (town.map eN)) := fun S => .lst _ (fun w hw => by
      obtain ⟨x, hx, rfl⟩ := List.mem_map.mp hw
      exact .tup _ (od_eN (hT.nm x hx))) (by rw [List.length_map]; omega)
    have dyD : ∀ S : Sto, Dy S (.tup [.lst (A.map eO), .lst (B.map eO)]) := fun S => dy2 (rw_eO nA) (rw_eO nB) (by rw [List.length_map]; omega) (by rw [List.length_map]; omega)
    repeat' contradiction
    rw [p23]
    refine .inl ⟨_, _, rfl, lsT S, ?_⟩
    rw [tB]
    repeat' contradiction
    refine iteF' rfl ?_
    repeat' contradiction
    rw [p23]
    refine .inr ⟨town, _, rfl, hT, tl, dyD S, ?_⟩
    rw [dB]
    repeat' contradiction
    refine iteF' rfl ?_
    repeat' contradiction
    -- the town put otherwise
    refine rg1 (by decide) ?_
    refine lc_mp (enc := fun (j : Nat) => W.int (0 + (j : Int))) (xs := List.range 13) (fun (j : Nat) => eN (nmK (v / 7) j, 0, 0, 0)) trivial (le_line (by rw [List.length_range]; omega)) (fun j hj K hK => ?_) ?_
    · have hj := List.mem_range.mp hj
      repeat' contradiction
      refine b_div (div_ok (by decide) (by decide)) ?_
      repeat' contradiction
      rw [p10]
      refine u_name (dv 7 (by decide)).1 (dv 7 (by decide)).2 (by omega) (by omega) ?_
      rw [show (0 + (j : Int)).toNat = j by omega]
      repeat' contradiction
      exact hK
    repeat' contradiction
    have rgM : ∀ w ∈ (List.range 13).map (fun (j : Nat) => eN (nmK (v / 7) j, 0, 0, 0)), Rg S w := fun w hw => by
      obtain ⟨j, hj, rfl⟩ := List.mem_map.mp hw
      exact rg_eN (nmK_nme (List.mem_range.mp hj))
    have lM : ((List.range 13).map (fun (j : Nat) => eN (nmK (v / 7) j, 0, 0, 0))).length ≤ 50 := by rw [List.length_map, List.length_range]; omega
    generalize (List.range 13).map (fun (j : Nat) => eN (nmK (v / 7) j, 0, 0, 0)) = more1 at rgM lM ⊢
    rw [p9]
    refine u_turned v0 (by omega) (by decide) (by decide) ?_
    repeat' contradiction
    rw [p22]
    refine ⟨town.map eN, more1, turnF v 1, rfl, fun w hw => ?_, rgM, by rw [List.length_map]; omega, lM, (tn 1).1, (tn 1).2, fun o1 S1 f1 lo1 => ?_⟩
    · obtain ⟨x, hx, rfl⟩ := List.mem_map.mp hw
      exact ⟨rg_eN (hT.nm x hx), pln_nb (hT.nm x hx)⟩
    repeat' contradiction
    rw [p23]
    refine .inl ⟨_, _, rfl, lo1, ?_⟩
    repeat' contradiction
    rw [p17]
    refine ⟨_, rfl, lo1, ?_⟩
    repeat' contradiction
    refine iteF' (by cases townB o1 <;> rfl) ?_
    -- the day put otherwise
    repeat' contradiction
    refine b_div (div_ok (by decide) (by decide)) ?_
    repeat' contradiction
    have e0 := Int.emod_nonneg (v / 30) (show (2 : Int) ≠ 0 by decide)
    have e1 := Int.emod_lt_of_pos (v / 30) (show (0 : Int) < 2 by decide)
    generalize v / 30 % 2 = side at e0 e1 ⊢
    repeat' contradiction
    refine b_cat rfl rfl (le_line (by simp only [List.length_map, List.length_cons, List.length_nil]; omega)) ?_
    repeat' contradiction
    obtain ⟨y, hy, ny⟩ : ∃ y : Nb, atI (town.map eN ++ [eN ("zz", 0, 0, 0)]) 0 = some (eN y) ∧ Nme y.1 := by
      cases town with
      | nil => exact ⟨("zz", 0, 0, 0), rfl, ⟨⟨by decide +kernel, by decide +kernel⟩, by decide +kernel⟩⟩
      | cons y t => exact ⟨y, atI_int (by decide) (show (eN y :: (t.map eN ++ [eN ("zz", 0, 0, 0)]))[(0 : Int).toNat]? = some (eN y) from rfl), hT.nm y List.mem_cons_self⟩
    refine ix_l hy ?_
    repeat' contradiction
    have g0 := Int.emod_nonneg v (show (4 : Int) ≠ 0 by decide)
    have g1 := Int.emod_lt_of_pos v (show (0 : Int) < 4 by decide)
    refine pick (b := 42) g0 (by simp only [List.length_cons, List.length_nil]; omega) (fun w hw => ?_) fun many hmany => ?_
    · simp only [List.mem_cons, List.not_mem_nil, or_false] at hw
      rcases hw with rfl | rfl | rfl | rfl
      · exact ⟨7, rfl, by decide⟩
      · exact ⟨9, rfl, by decide⟩
      · exact ⟨12, rfl, by decide⟩
      · exact ⟨42, rfl, by decide⟩
    repeat' contradiction
    refine rg1 (by omega) ?_
    rw [Int.toNat_natCast]
    refine lc_inv (fun i acc S' => S' = S1 ∧ acc.length = i ∧ ∀ w ∈ acc, Rg S1 w) ⟨rfl, rfl, fun _ h => nomatch h⟩ (fun _ _ _ _ => trivial) (fun j w acc S' hw h K hK => ?_) (fun acc S' h => ?_)
    · obtain ⟨rfl, la, ra⟩ := h
      unfold rngW at hw
      rw [List.getElem?_map] at hw
      have hj : j < many := by
        cases e : (List.range many)[j]? with
        | none => rw [e] at hw; cases hw
        | some z =>
          have := (List.getElem?_eq_some_iff.mp e).1
          rwa [List.length_range] at this
      rw [List.getElem?_range hj] at hw
      cases hw
      repeat' contradiction
      refine iteT' rfl ?_
      repeat' contradiction
      refine ix_txt (n := 23) (by decide +kernel) (by decide) (by decide +kernel) (Int.emod_nonneg _ (by decide)) (Int.emod_lt_of_pos _ (by decide)) fun x xl xc => ?_
      repeat' contradiction
      refine b_div (div_ok (by decide) (by decide)) ?_
      repeat' contradiction
      have fin : ∀ z : Str, z.length ≤ 2 → (PyData.str z).canLay0 = true → bopW false .add (.str "z") (.str z) S' (fun w2 S2 => (fun w3 S3 => S3 = S' ∧ w3 = w2) w2 S2) → True := fun _ _ _ _ => trivial
      have hdiv : (0 + (j : Int)) / 23 = 0 ∨ (0 + (j : Int)) / 23 = 1 := by omega
      have done : ∀ z : Str, z.length ≤ 2 → (PyData.str z).canLay0 = true → ∀ w ∈ acc ++ [W.tup [.str y.1, .str ("z" ++ z), .int 1]], Rg S' w := fun z zl zc w hw => by
        rcases List.mem_append.mp hw with hw | hw
        · exact ra w hw
        · rw [List.mem_singleton.mp hw]
          refine ⟨_, rfl, by simp, by simp, fun u hu => ?_⟩
          simp only [List.mem_cons, List.not_mem_nil, or_false] at hu
          rcases hu with rfl | rfl | rfl
          · exact od_s ny
          · exact .str _ (can_app (by decide +kernel) zc) (by rw [app_len]; have : ("z" : Str).length = 1 := by decide +kernel
                                                              omega)
          · exact .int 1
      have zl : ("z" : Str).length = 1 := by decide +kernel
      rcases hdiv with e | e <;> rw [e]
      · refine b_mulS1 (by decide) ?_
        refine b_str (by omega) ?_
        repeat' contradiction
        exact ⟨lt_line (by omega), hK _ _ ⟨rfl, by rw [List.length_append, la]; rfl, done x (by omega) xc⟩⟩
      · refine b_mulS2 (by decide) (by omega) (by omega) ?_
        refine b_str (by rw [app_len]; omega) ?_
        repeat' contradiction
        exact ⟨lt_line (by omega), hK _ _ ⟨rfl, by rw [List.length_append, la]; rfl, done (x ++ x) (by rw [app_len]; omega) (can_app xc xc)⟩⟩
    obtain ⟨rfl, la, ra⟩ := h
    have la2 : acc.length ≤ 50 := by
      rw [la]
      unfold rngW
      rw [List.length_map, List.length_range]
      omega
    repeat' contradiction
    refine mk_t fun p hp => ?_
    have hpp : sup S' p (.lst [.lst (A.map eO), .lst (B.map eO)]) p = some (.lst [.lst (A.map eO), .lst (B.map eO)]) := sup_same
    have f2 : Fewer S' (sup S' p (.lst [.lst (A.map eO), .lst (B.map eO)])) := fewer_sup hp
    generalize sup S' p (.lst [.lst (A.map eO), .lst (B.map eO)]) = S2 at hpp f2 ⊢
    have rgA : ∀ w ∈ acc, Rg S2 w := fun w hw => by
      obtain ⟨us, rfl, a, b, c⟩ := ra w hw
      exact ⟨us, rfl, a, b, fun u hu => (c u hu).up f2⟩
    have plO : ∀ {C : List En}, (∀ x ∈ C, Nme x.1 ∧ Nme x.2.1) → ∀ w ∈ C.map eO, Rg S2 w ∧ Pln 1 w := fun hC w hw => by
      obtain ⟨x, hx, rfl⟩ := List.mem_map.mp hw
      exact ⟨rg_eO (hC x hx), pln_en (hC x hx).1 (hC x hx).2⟩
    have lsO : ∀ {C : List En} {S : Sto}, (∀ x ∈ C, Nme x.1 ∧ Nme x.2.1) → C.length ≤ 20 → Ls S (.lst (C.map eO)) := fun hC lC => .lst _ (rw_eO hC) (by rw [List.length_map]; omega)
    obtain ⟨C, hC, nC, lC⟩ : ∃ C : List En, atI [W.lst (A.map eO), .lst (B.map eO)] side = some (.lst (C.map eO)) ∧ (∀ x ∈ C, Nme x.1 ∧ Nme x.2.1) ∧ C.length ≤ 20 := by
      have hside : side = 0 ∨ side = 1 := by omega
      rcases hside with rfl | rfl
      · exact ⟨A, rfl, nA, lA⟩
      · exact ⟨B, rfl, nB, lB⟩
    repeat' contradiction
    refine ix_t hC ?_
    repeat' contradiction
    rw [p9]
    refine u_turned v0 (by omega) (by decide) (by decide) ?_
    repeat' contradiction
    rw [p22]
    refine ⟨C.map eO, acc, turnF v 2, rfl, plO nC, rgA, by rw [List.length_map]; omega, la2, (tn 2).1, (tn 2).2, fun o2 S3 f3 lo2 => ?_⟩
    repeat' contradiction
    have hp3 := f3 _ _ hpp
    refine st_l (j := side.toNat) hp3 (ixN_int e0 (by simp only [List.length_cons, List.length_nil]; omega)) ?_
    have usl : ∀ w ∈ [W.lst (A.map eO), .lst (B.map eO)].set side.toNat o2, Ls S3 w := fun w hw => by
      rcases List.mem_or_eq_of_mem_set hw with hw | rfl
      · simp only [List.mem_cons, List.not_mem_nil, or_false] at hw
        rcases hw with rfl | rfl
        · exact lsO nA lA
        · exact lsO nB lB
      · exact lo2
    have usn : ([W.lst (A.map eO), .lst (B.map eO)].set side.toNat o2).length = 2 := by rw [List.length_set]; rfl
    generalize [W.lst (A.map eO), .lst (B.map eO)].set side.toNat o2 = us at usl usn ⊢
    repeat' contradiction
    refine s_gf6 sup_same ?_
    have kp : Kp S3 (sdel (sup S3 p (.lst us)) p) := fun q hq => by
      have ne : q ≠ p := fun e => by rw [e, hp3] at hq; cases hq
      rw [sdel_ne ne, sup_ne ne]
      exact hq
    have usl : ∀ w ∈ us, Ls (sdel (sup S3 p (.lst us)) p) w := fun w hw => (usl w hw).keep kp
    generalize sdel (sup S3 p (.lst us)) p = S5 at usl ⊢
    repeat' contradiction
    refine l_tuple rfl ?_
    repeat' contradiction
    refine b_cat rfl rfl (le_line (by rw [usn]; simp)) ?_
    repeat' contradiction
    refine l_tuple rfl ?_
    repeat' contradiction
    refine b_div (div_ok (by decide) (by decide)) ?_
    repeat' contradiction
    have h0 := Int.emod_nonneg (v / 60) (show (6 : Int) ≠ 0 by decide)
    have h1 := Int.emod_lt_of_pos (v / 60) (show (0 : Int) < 6 by decide)
    refine pick (b := 2) h0 (by simp only [List.length_cons, List.length_nil]; omega) (fun w hw => ?_) fun which hwhich => ?_
    · simp only [List.mem_cons, List.not_mem_nil, or_false] at hw
      rcases hw with rfl | rfl | rfl | rfl | rfl | rfl
      · exact ⟨0, rfl, by decide⟩
      · exact ⟨0, rfl, by decide⟩
      · exact ⟨0, rfl, by decide⟩
      · exact ⟨0, rfl, by decide⟩
      · exact ⟨1, rfl, by decide⟩
      · exact ⟨2, rfl, by decide⟩
    refine ix_any (by omega) (by simp only [List.length_cons, List.length_nil]; omega) fun o3 ho3 => ?_
    have dy3 : Dy S5 o3 := by
      simp only [List.mem_cons, List.not_mem_nil, or_false] at ho3
      rcases ho3 with rfl | rfl | rfl
      · exact .tup _ usl
      · exact .lst _ usl
      · refine .tup _ fun w hw => ?_
        rcases List.mem_append.mp hw with hw | hw
        · exact usl w hw
        · rw [List.mem_singleton.mp hw]; exact .lst [] (fun _ h => nomatch h) (Nat.zero_le _)
    repeat' contradiction
    rw [p23]
    refine .inr ⟨town, _, rfl, hT, tl, dy3, ?_⟩
    repeat' contradiction
    rw [p19]
    refine ⟨town, _, rfl, hT, tl, dy3, ?_⟩
    repeat' contradiction
    refine iteF' (by cases dayB (town.map (·.1)) o3 <;> rfl) ?_
    repeat' contradiction
    rw [p9]
    refine u_turned v0 (by omega) (by decide) (by decide) ?_
    repeat' contradiction
    rw [p25]
    refine ⟨town, A, B, turnF v 4, rfl, hT, nA, nB, lA, lB, (tn 4).1, (tn 4).2, fun ds hds => ?_⟩
    repeat' contradiction
    refine ⟨ds, rfl, ?_⟩
    refine for_inv (fun _ ρ S' => ∃ r6, ρ = [some (.lst (ns.map W.int)), some (.int (0 + (i : Int))), some (.int v), some (.lst (town.map eN)), some (.tup [.lst (A.map eO), .lst (B.map eO)]), some (.lst acc), r6, some (.int side), some (.str y.1), some (.int (many : Nat)), r10, r11] ∧ S' = S5)
      ⟨_, rfl, rfl⟩ (fun _ _ _ h => ?_) (fun k w ρ S' hw h K2 hK2 => ?_) (fun ρ S' h => ?_)
    · rfl
    · obtain ⟨r6, rfl, rfl⟩ := h
      have dw := hds w (List.mem_of_getElem? hw)
      repeat' contradiction
      rw [p23]
      refine .inr ⟨town, _, rfl, hT, tl, dw, ?_⟩
      repeat' contradiction
      rw [p19]
      refine ⟨town, _, rfl, hT, tl, dw, ?_⟩
      repeat' contradiction
      refine iteF' (by cases dayB (town.map (·.1)) w <;> rfl) ?_
      repeat' contradiction
      exact hK2 _ _ ⟨_, rfl, rfl⟩
    · obtain ⟨r6, rfl, rfl⟩ := h
      have nAB : ∀ x ∈ A ++ B, Nme x.2.1 := fun x hx => (List.mem_append.mp hx).elim (fun z => (nA x z).2) fun z => (nB x z).2
      repeat' contradiction
      rw [p6]
      refine ⟨A, B, rfl, nAB, by rw [List.length_append]; omega, ?_⟩
      repeat' contradiction
      refine ⟨.lst, rfl, ?_⟩
      repeat' contradiction
      refine iteF' rfl ?_
      repeat' contradiction
      rw [p24]
      refine ⟨A, B, rfl, nAB, by rw [List.length_append]; omega, ?_⟩
      refine ne_self (n := 1) (.lst 0 _ fun u hu => ?_) ?_
      · obtain ⟨z, hz, rfl⟩ := List.mem_map.mp hu
        obtain ⟨x, hx, rfl⟩ := List.mem_map.mp (((uq_nd _).2 z).mp hz)
        exact .str 0 _ (nAB x hx).can
      refine iteF' rfl ?_
      repeat' contradiction
      rw [p9]
      refine u_turned v0 (by omega) (by decide) (by decide) ?_
      repeat' contradiction
      rw [p26]
      refine ⟨turnF v 3, rfl, (tn 3).1, (tn 3).2, ?_⟩
      repeat' contradiction
      refine iteF' rfl ?_
      repeat' contradiction
      exact hK _ _ ⟨_, _, _, _, _, _, _, _, _, _, _, rfl⟩
  · obtain ⟨r1, r2, r3, r4, r5, r6, r7, r8, r9, r10, r11, rfl⟩ := h
    repeat' contradiction
    exact d_ret (fun _ _ h => by cases h) q
end K01

set_option Elab.async false
set_option linter.all false
set_option maxRecDepth 100000
set_option maxHeartbeats 4000000
namespace K01
open PySem PySem.Spec PyProof.Rows L2 MP
theorem all_mk {l : PySem.W.OpenLaw} {w : World} {K : PySem.W.Frag} {h : Heap} {mg : Str → Option Value} {fa : Addr} (X : K.In h) (G : h.Ns mainGlobals mg) (hfa : mg "law" = some (.ref fa))
    {f0 : Addr} {od0 an0 : Option Addr} {sl0 : Array (Option Value)} {oc0 kV0 dc0 pm0 cd0 ct0 : Value}
    (a0 : PySem.W.nsIn K mainGlobals "is_name" = some (some (.ref f0)))
    (l0 : K.lookup f0 = some ⟨oc0, od0, .func (PySem.W.fnOf "is_name" "is_name" (defArgs st0) (defBody st0) (defScope st0) .none kV0 dc0 pm0 an0 cd0 ct0), sl0⟩)
    (d0 : PySem.W.codeIn K cd0 "is_name" = true) (e0 : PySem.W.keepIn K (.ref f0) = true)
    {f1 : Addr} {od1 an1 : Option Addr} {sl1 : Array (Option Value)} {oc1 kV1 dc1 pm1 cd1 ct1 : Value}
    (a1 : PySem.W.nsIn K mainGlobals "is_whole" = some (some (.ref f1)))
    (l1 : K.lookup f1 = some ⟨oc1, od1, .func (PySem.W.fnOf "is_whole" "is_whole" (defArgs st1) (defBody st1) (defScope st1) .none kV1 dc1 pm1 an1 cd1 ct1), sl1⟩)
    (d1 : PySem.W.codeIn K cd1 "is_whole" = true) (e1 : PySem.W.keepIn K (.ref f1) = true)
    {f2 : Addr} {od2 an2 : Option Addr} {sl2 : Array (Option Value)} {oc2 kV2 dc2 pm2 cd2 ct2 : Value}
    (a2 : PySem.W.nsIn K mainGlobals "is_row" = some (some (.ref f2)))
    (l2 : K.lookup f2 = some ⟨oc2, od2, .func (PySem.W.fnOf "is_row" "is_row" (defArgs st2) (defBody st2) (defScope st2) .none kV2 dc2 pm2 an2 cd2 ct2), sl2⟩)
    (d2 : PySem.W.codeIn K cd2 "is_row" = true) (e2 : PySem.W.keepIn K (.ref f2) = true)
    {f3 : Addr} {od3 an3 : Option Addr} {sl3 : Array (Option Value)} {oc3 kV3 dc3 pm3 cd3 ct3 : Value}
    (a3 : PySem.W.nsIn K mainGlobals "is_neighbour" = some (some (.ref f3)))
    (l3 : K.lookup f3 = some ⟨oc3, od3, .func (PySem.W.fnOf "is_neighbour" "is_neighbour" (defArgs st3) (defBody st3) (defScope st3) .none kV3 dc3 pm3 an3 cd3 ct3), sl3⟩)
    (d3 : PySem.W.codeIn K cd3 "is_neighbour" = true) (e3 : PySem.W.keepIn K (.ref f3) = true)
    {f4 : Addr} {od4 an4 : Option Addr} {sl4 : Array (Option Value)} {oc4 kV4 dc4 pm4 cd4 ct4 : Value}
    (a4 : PySem.W.nsIn K mainGlobals "need_town" = some (some (.ref f4)))
    (l4 : K.lookup f4 = some ⟨oc4, od4, .func (PySem.W.fnOf "need_town" "need_town" (defArgs st4) (defBody st4) (defScope st4) .none kV4 dc4 pm4 an4 cd4 ct4), sl4⟩)
    (d4 : PySem.W.codeIn K cd4 "need_town" = true) (e4 : PySem.W.keepIn K (.ref f4) = true)
    {f5 : Addr} {od5 an5 : Option Addr} {sl5 : Array (Option Value)} {oc5 kV5 dc5 pm5 cd5 ct5 : Value}
    (a5 : PySem.W.nsIn K mainGlobals "is_told" = some (some (.ref f5)))
    (l5 : K.lookup f5 = some ⟨oc5, od5, .func (PySem.W.fnOf "is_told" "is_told" (defArgs st5) (defBody st5) (defScope st5) .none kV5 dc5 pm5 an5 cd5 ct5), sl5⟩)
    (d5 : PySem.W.codeIn K cd5 "is_told" = true) (e5 : PySem.W.keepIn K (.ref f5) = true)
    {f6 : Addr} {od6 an6 : Option Addr} {sl6 : Array (Option Value)} {oc6 kV6 dc6 pm6 cd6 ct6 : Value}
    (a6 : PySem.W.nsIn K mainGlobals "skills_of" = some (some (.ref f6)))
    (l6 : K.lookup f6 = some ⟨oc6, od6, .func (PySem.W.fnOf "skills_of" "skills_of" (defArgs st6) (defBody st6) (defScope st6) .none kV6 dc6 pm6 an6 cd6 ct6), sl6⟩)
    (d6 : PySem.W.codeIn K cd6 "skills_of" = true) (e6 : PySem.W.keepIn K (.ref f6) = true)
    {f7 : Addr} {od7 an7 : Option Addr} {sl7 : Array (Option Value)} {oc7 kV7 dc7 pm7 cd7 ct7 : Value}
    (a7 : PySem.W.nsIn K mainGlobals "need_day" = some (some (.ref f7)))
    (l7 : K.lookup f7 = some ⟨oc7, od7, .func (PySem.W.fnOf "need_day" "need_day" (defArgs st7) (defBody st7) (defScope st7) .none kV7 dc7 pm7 an7 cd7 ct7), sl7⟩)
    (d7 : PySem.W.codeIn K cd7 "need_day" = true) (e7 : PySem.W.keepIn K (.ref f7) = true)
    {f8 : Addr} {od8 an8 : Option Addr} {sl8 : Array (Option Value)} {oc8 kV8 dc8 pm8 cd8 ct8 : Value}
    (a8 : PySem.W.nsIn K mainGlobals "_law_mixed" = some (some (.ref f8)))
    (l8 : K.lookup f8 = some ⟨oc8, od8, .func (PySem.W.fnOf "_law_mixed" "_law_mixed" (defArgs st8) (defBody st8) (defScope st8) .none kV8 dc8 pm8 an8 cd8 ct8), sl8⟩)
    (d8 : PySem.W.codeIn K cd8 "_law_mixed" = true) (e8 : PySem.W.keepIn K (.ref f8) = true)
    {f9 : Addr} {od9 an9 : Option Addr} {sl9 : Array (Option Value)} {oc9 kV9 dc9 pm9 cd9 ct9 : Value}
    (a9 : PySem.W.nsIn K mainGlobals "_law_turned" = some (some (.ref f9)))
    (l9 : K.lookup f9 = some ⟨oc9, od9, .func (PySem.W.fnOf "_law_turned" "_law_turned" (defArgs st9) (defBody st9) (defScope st9) .none kV9 dc9 pm9 an9 cd9 ct9), sl9⟩)
    (d9 : PySem.W.codeIn K cd9 "_law_turned" = true) (e9 : PySem.W.keepIn K (.ref f9) = true)
    {f10 : Addr} {od10 an10 : Option Addr} {sl10 : Array (Option Value)} {oc10 kV10 dc10 pm10 cd10 ct10 : Value}
    (a10 : PySem.W.nsIn K mainGlobals "_law_name" = some (some (.ref f10)))
    (l10 : K.lookup f10 = some ⟨oc10, od10, .func (PySem.W.fnOf "_law_name" "_law_name" (defArgs st10) (defBody st10) (defScope st10) .none kV10 dc10 pm10 an10 cd10 ct10), sl10⟩)
    (d10 : PySem.W.codeIn K cd10 "_law_name" = true) (e10 : PySem.W.keepIn K (.ref f10) = true)
    {f11 : Addr} {od11 an11 : Option Addr} {sl11 : Array (Option Value)} {oc11 kV11 dc11 pm11 cd11 ct11 : Value}
    (a11 : PySem.W.nsIn K mainGlobals "_law_size" = some (some (.ref f11)))
    (l11 : K.lookup f11 = some ⟨oc11, od11, .func (PySem.W.fnOf "_law_size" "_law_size" (defArgs st11) (defBody st11) (defScope st11) .none kV11 dc11 pm11 an11 cd11 ct11), sl11⟩)
    (d11 : PySem.W.codeIn K cd11 "_law_size" = true) (e11 : PySem.W.keepIn K (.ref f11) = true)
    {f12 : Addr} {od12 an12 : Option Addr} {sl12 : Array (Option Value)} {oc12 kV12 dc12 pm12 cd12 ct12 : Value}
    (a12 : PySem.W.nsIn K mainGlobals "_law_town" = some (some (.ref f12)))
    (l12 : K.lookup f12 = some ⟨oc12, od12, .func (PySem.W.fnOf "_law_town" "_law_town" (defArgs st12) (defBody st12) (defScope st12) .none kV12 dc12 pm12 an12 cd12 ct12), sl12⟩)
    (d12 : PySem.W.codeIn K cd12 "_law_town" = true) (e12 : PySem.W.keepIn K (.ref f12) = true)
    {f13 : Addr} {od13 an13 : Option Addr} {sl13 : Array (Option Value)} {oc13 kV13 dc13 pm13 cd13 ct13 : Value}
    (a13 : PySem.W.nsIn K mainGlobals "_law_day" = some (some (.ref f13)))
    (l13 : K.lookup f13 = some ⟨oc13, od13, .func (PySem.W.fnOf "_law_day" "_law_day" (defArgs st13) (defBody st13) (defScope st13) .none kV13 dc13 pm13 an13 cd13 ct13), sl13⟩)
    (d13 : PySem.W.codeIn K cd13 "_law_day" = true) (e13 : PySem.W.keepIn K (.ref f13) = true)
    {f14 : Addr} {od14 an14 : Option Addr} {sl14 : Array (Option Value)} {oc14 kV14 dc14 pm14 cd14 ct14 : Value}
    (a14 : PySem.W.nsIn K mainGlobals "_law_is_number" = some (some (.ref f14)))
    (l14 : K.lookup f14 = some ⟨oc14, od14, .func (PySem.W.fnOf "_law_is_number" "_law_is_number" (defArgs st14) (defBody st14) (defScope st14) .none kV14 dc14 pm14 an14 cd14 ct14), sl14⟩)
    (d14 : PySem.W.codeIn K cd14 "_law_is_number" = true) (e14 : PySem.W.keepIn K (.ref f14) = true)
    {f15 : Addr} {od15 an15 : Option Addr} {sl15 : Array (Option Value)} {oc15 kV15 dc15 pm15 cd15 ct15 : Value}
    (a15 : PySem.W.nsIn K mainGlobals "_law_is_name" = some (some (.ref f15)))
    (l15 : K.lookup f15 = some ⟨oc15, od15, .func (PySem.W.fnOf "_law_is_name" "_law_is_name" (defArgs st15) (defBody st15) (defScope st15) .none kV15 dc15 pm15 an15 cd15 ct15), sl15⟩)
    (d15 : PySem.W.codeIn K cd15 "_law_is_name" = true) (e15 : PySem.W.keepIn K (.ref f15) = true)
    {f16 : Addr} {od16 an16 : Option Addr} {sl16 : Array (Option Value)} {oc16 kV16 dc16 pm16 cd16 ct16 : Value}
    (a16 : PySem.W.nsIn K mainGlobals "_law_good_one" = some (some (.ref f16)))
    (l16 : K.lookup f16 = some ⟨oc16, od16, .func (PySem.W.fnOf "_law_good_one" "_law_good_one" (defArgs st16) (defBody st16) (defScope st16) .none kV16 dc16 pm16 an16 cd16 ct16), sl16⟩)
    (d16 : PySem.W.codeIn K cd16 "_law_good_one" = true) (e16 : PySem.W.keepIn K (.ref f16) = true)
    {f17 : Addr} {od17 an17 : Option Addr} {sl17 : Array (Option Value)} {oc17 kV17 dc17 pm17 cd17 ct17 : Value}
    (a17 : PySem.W.nsIn K mainGlobals "_law_good_town" = some (some (.ref f17)))
    (l17 : K.lookup f17 = some ⟨oc17, od17, .func (PySem.W.fnOf "_law_good_town" "_law_good_town" (defArgs st17) (defBody st17) (defScope st17) .none kV17 dc17 pm17 an17 cd17 ct17), sl17⟩)
    (d17 : PySem.W.codeIn K cd17 "_law_good_town" = true) (e17 : PySem.W.keepIn K (.ref f17) = true)
    {f18 : Addr} {od18 an18 : Option Addr} {sl18 : Array (Option Value)} {oc18 kV18 dc18 pm18 cd18 ct18 : Value}
    (a18 : PySem.W.nsIn K mainGlobals "_law_good_told" = some (some (.ref f18)))
    (l18 : K.lookup f18 = some ⟨oc18, od18, .func (PySem.W.fnOf "_law_good_told" "_law_good_told" (defArgs st18) (defBody st18) (defScope st18) .none kV18 dc18 pm18 an18 cd18 ct18), sl18⟩)
    (d18 : PySem.W.codeIn K cd18 "_law_good_told" = true) (e18 : PySem.W.keepIn K (.ref f18) = true)
    {f19 : Addr} {od19 an19 : Option Addr} {sl19 : Array (Option Value)} {oc19 kV19 dc19 pm19 cd19 ct19 : Value}
    (a19 : PySem.W.nsIn K mainGlobals "_law_good_day" = some (some (.ref f19)))
    (l19 : K.lookup f19 = some ⟨oc19, od19, .func (PySem.W.fnOf "_law_good_day" "_law_good_day" (defArgs st19) (defBody st19) (defScope st19) .none kV19 dc19 pm19 an19 cd19 ct19), sl19⟩)
    (d19 : PySem.W.codeIn K cd19 "_law_good_day" = true) (e19 : PySem.W.keepIn K (.ref f19) = true)
    {f20 : Addr} {od20 an20 : Option Addr} {sl20 : Array (Option Value)} {oc20 kV20 dc20 pm20 cd20 ct20 : Value}
    (a20 : PySem.W.nsIn K mainGlobals "_law_odd" = some (some (.ref f20)))
    (l20 : K.lookup f20 = some ⟨oc20, od20, .func (PySem.W.fnOf "_law_odd" "_law_odd" (defArgs st20) (defBody st20) (defScope st20) .none kV20 dc20 pm20 an20 cd20 ct20), sl20⟩)
    (d20 : PySem.W.codeIn K cd20 "_law_odd" = true) (e20 : PySem.W.keepIn K (.ref f20) = true)
    {f21 : Addr} {od21 an21 : Option Addr} {sl21 : Array (Option Value)} {oc21 kV21 dc21 pm21 cd21 ct21 : Value}
    (a21 : PySem.W.nsIn K mainGlobals "_law_changed" = some (some (.ref f21)))
    (l21 : K.lookup f21 = some ⟨oc21, od21, .func (PySem.W.fnOf "_law_changed" "_law_changed" (defArgs st21) (defBody st21) (defScope st21) .none kV21 dc21 pm21 an21 cd21 ct21), sl21⟩)
    (d21 : PySem.W.codeIn K cd21 "_law_changed" = true) (e21 : PySem.W.keepIn K (.ref f21) = true)
    {f22 : Addr} {od22 an22 : Option Addr} {sl22 : Array (Option Value)} {oc22 kV22 dc22 pm22 cd22 ct22 : Value}
    (a22 : PySem.W.nsIn K mainGlobals "_law_bent" = some (some (.ref f22)))
    (l22 : K.lookup f22 = some ⟨oc22, od22, .func (PySem.W.fnOf "_law_bent" "_law_bent" (defArgs st22) (defBody st22) (defScope st22) .none kV22 dc22 pm22 an22 cd22 ct22), sl22⟩)
    (d22 : PySem.W.codeIn K cd22 "_law_bent" = true) (e22 : PySem.W.keepIn K (.ref f22) = true)
    {f23 : Addr} {od23 an23 : Option Addr} {sl23 : Array (Option Value)} {oc23 kV23 dc23 pm23 cd23 ct23 : Value}
    (a23 : PySem.W.nsIn K mainGlobals "_law_refused" = some (some (.ref f23)))
    (l23 : K.lookup f23 = some ⟨oc23, od23, .func (PySem.W.fnOf "_law_refused" "_law_refused" (defArgs st23) (defBody st23) (defScope st23) .none kV23 dc23 pm23 an23 cd23 ct23), sl23⟩)
    (d23 : PySem.W.codeIn K cd23 "_law_refused" = true) (e23 : PySem.W.keepIn K (.ref f23) = true)
    {f24 : Addr} {od24 an24 : Option Addr} {sl24 : Array (Option Value)} {oc24 kV24 dc24 pm24 cd24 ct24 : Value}
    (a24 : PySem.W.nsIn K mainGlobals "_law_skills" = some (some (.ref f24)))
    (l24 : K.lookup f24 = some ⟨oc24, od24, .func (PySem.W.fnOf "_law_skills" "_law_skills" (defArgs st24) (defBody st24) (defScope st24) .none kV24 dc24 pm24 an24 cd24 ct24), sl24⟩)
    (d24 : PySem.W.codeIn K cd24 "_law_skills" = true) (e24 : PySem.W.keepIn K (.ref f24) = true)
    {f25 : Addr} {od25 an25 : Option Addr} {sl25 : Array (Option Value)} {oc25 kV25 dc25 pm25 cd25 ct25 : Value}
    (a25 : PySem.W.nsIn K mainGlobals "_law_days" = some (some (.ref f25)))
    (l25 : K.lookup f25 = some ⟨oc25, od25, .func (PySem.W.fnOf "_law_days" "_law_days" (defArgs st25) (defBody st25) (defScope st25) .none kV25 dc25 pm25 an25 cd25 ct25), sl25⟩)
    (d25 : PySem.W.codeIn K cd25 "_law_days" = true) (e25 : PySem.W.keepIn K (.ref f25) = true)
    {f26 : Addr} {od26 an26 : Option Addr} {sl26 : Array (Option Value)} {oc26 kV26 dc26 pm26 cd26 ct26 : Value}
    (a26 : PySem.W.nsIn K mainGlobals "_law_words" = some (some (.ref f26)))
    (l26 : K.lookup f26 = some ⟨oc26, od26, .func (PySem.W.fnOf "_law_words" "_law_words" (defArgs st26) (defBody st26) (defScope st26) .none kV26 dc26 pm26 an26 cd26 ct26), sl26⟩)
    (d26 : PySem.W.codeIn K cd26 "_law_words" = true) (e26 : PySem.W.keepIn K (.ref f26) = true)
    {f27 : Addr} {od27 an27 : Option Addr} {sl27 : Array (Option Value)} {oc27 kV27 dc27 pm27 cd27 ct27 : Value}
    (a27 : PySem.W.nsIn K mainGlobals "law" = some (some (.ref f27)))
    (l27 : K.lookup f27 = some ⟨oc27, od27, .func (PySem.W.fnOf "law" "law" (defArgs st27) (defBody st27) (defScope st27) .none kV27 dc27 pm27 an27 cd27 ct27), sl27⟩)
    (d27 : PySem.W.codeIn K cd27 "law" = true) (e27 : PySem.W.keepIn K (.ref f27) = true)
    (z_len : PySem.W.nsIn K mainGlobals "len" = some none)
    (z_abs : PySem.W.nsIn K mainGlobals "abs" = some none)
    (z_min : PySem.W.nsIn K mainGlobals "min" = some none)
    (z_max : PySem.W.nsIn K mainGlobals "max" = some none)
    (z_sum : PySem.W.nsIn K mainGlobals "sum" = some none)
    (z_all : PySem.W.nsIn K mainGlobals "all" = some none)
    (z_any : PySem.W.nsIn K mainGlobals "any" = some none)
    (z_int : PySem.W.nsIn K mainGlobals "int" = some none)
    (z_str : PySem.W.nsIn K mainGlobals "str" = some none)
    (z_list : PySem.W.nsIn K mainGlobals "list" = some none)
    (z_tuple : PySem.W.nsIn K mainGlobals "tuple" = some none)
    (z_range : PySem.W.nsIn K mainGlobals "range" = some none)
    (z_zip : PySem.W.nsIn K mainGlobals "zip" = some none)
    (z_enumerate : PySem.W.nsIn K mainGlobals "enumerate" = some none)
    (z_isinstance : PySem.W.nsIn K mainGlobals "isinstance" = some none)
    (z_set : PySem.W.nsIn K mainGlobals "set" = some none)
    (z_sorted : PySem.W.nsIn K mainGlobals "sorted" = some none)
    (z_dict : PySem.W.nsIn K mainGlobals "dict" = some none)
    (z_reversed : PySem.W.nsIn K mainGlobals "reversed" = some none)
    (z_bool : PySem.W.nsIn K mainGlobals "bool" = some none)
    {t_RingError : Addr} (c_RingError : PySem.W.nsIn K mainGlobals "RingError" = some (some (.ref t_RingError)))
    {t_BadTown : Addr} (c_BadTown : PySem.W.nsIn K mainGlobals "BadTown" = some (some (.ref t_BadTown)))
    {t_BadDay : Addr} (c_BadDay : PySem.W.nsIn K mainGlobals "BadDay" = some (some (.ref t_BadDay)))
    {t_BadDeed : Addr} (c_BadDeed : PySem.W.nsIn K mainGlobals "BadDeed" = some (some (.ref t_BadDeed)))
    {t_Both : Addr} (c_Both : PySem.W.nsIn K mainGlobals "Both" = some (some (.ref t_Both)))
    {t_NoDeed : Addr} (c_NoDeed : PySem.W.nsIn K mainGlobals "NoDeed" = some (some (.ref t_NoDeed)))
    {t_NoNeighbour : Addr} (c_NoNeighbour : PySem.W.nsIn K mainGlobals "NoNeighbour" = some (some (.ref t_NoNeighbour)))
    {t_OutOfBounds : Addr} (c_OutOfBounds : PySem.W.nsIn K mainGlobals "OutOfBounds" = some (some (.ref t_OutOfBounds)))
    {t_TooMany : Addr} (c_TooMany : PySem.W.nsIn K mainGlobals "TooMany" = some (some (.ref t_TooMany)))
    {t_Twice : Addr} (c_Twice : PySem.W.nsIn K mainGlobals "Twice" = some (some (.ref t_Twice)))
    (z_ValueError : PySem.W.nsIn K mainGlobals "ValueError" = some none)
    {bm_BadTown : List Value} {B_BadTown n_BadTown i_BadTown : String} (eb_BadTown : ExcBaseFacts B_BadTown n_BadTown i_BadTown bm_BadTown) (ei_BadTown : PySem.W.excIn K t_BadTown bm_BadTown n_BadTown = true) (ek_BadTown : PySem.W.keepIn K (.ref t_BadTown) = true) (es_BadTown : PySem.W.subIn K (.ref t_BadTown) (.type "BaseException") = some true) (et_BadTown : PySem.W.typeIn K (.ref t_BadTown) = some (.type "type"))
    (ec_BadTown : ExcC K t_BadTown)
    (ki_BadTown_BadDeed : PySem.W.kitOne K (.ref t_BadTown) (.ref t_BadDeed) = some false)
    (ki_BadTown_NoDeed : PySem.W.kitOne K (.ref t_BadTown) (.ref t_NoDeed) = some false)
    (ki_BadTown_TooMany : PySem.W.kitOne K (.ref t_BadTown) (.ref t_TooMany) = some false)
    (ki_BadTown_Twice : PySem.W.kitOne K (.ref t_BadTown) (.ref t_Twice) = some false)
    (ki_BadTown_NoNeighbour : PySem.W.kitOne K (.ref t_BadTown) (.ref t_NoNeighbour) = some false)
    (ki_BadTown_Both : PySem.W.kitOne K (.ref t_BadTown) (.ref t_Both) = some false)
    (ki_BadTown_OutOfBounds : PySem.W.kitOne K (.ref t_BadTown) (.ref t_OutOfBounds) = some false)
    (ki_BadTown_BadTown : PySem.W.kitOne K (.ref t_BadTown) (.ref t_BadTown) = some true)
    (ki_BadTown_BadDay : PySem.W.kitOne K (.ref t_BadTown) (.ref t_BadDay) = some false)
    (ki_BadTown_ValueError : PySem.W.kitOne K (.ref t_BadTown) (.type "ValueError") = some true)
    (ke_BadTown_RingError : PySem.W.exmOne K (.ref t_BadTown) (.ref t_RingError) = some true)
    {bm_BadDay : List Value} {B_BadDay n_BadDay i_BadDay : String} (eb_BadDay : ExcBaseFacts B_BadDay n_BadDay i_BadDay bm_BadDay) (ei_BadDay : PySem.W.excIn K t_BadDay bm_BadDay n_BadDay = true) (ek_BadDay : PySem.W.keepIn K (.ref t_BadDay) = true) (es_BadDay : PySem.W.subIn K (.ref t_BadDay) (.type "BaseException") = some true) (et_BadDay : PySem.W.typeIn K (.ref t_BadDay) = some (.type "type"))
    (ec_BadDay : ExcC K t_BadDay)
    (ki_BadDay_BadDeed : PySem.W.kitOne K (.ref t_BadDay) (.ref t_BadDeed) = some false)
    (ki_BadDay_NoDeed : PySem.W.kitOne K (.ref t_BadDay) (.ref t_NoDeed) = some false)
    (ki_BadDay_TooMany : PySem.W.kitOne K (.ref t_BadDay) (.ref t_TooMany) = some false)
    (ki_BadDay_Twice : PySem.W.kitOne K (.ref t_BadDay) (.ref t_Twice) = some false)
    (ki_BadDay_NoNeighbour : PySem.W.kitOne K (.ref t_BadDay) (.ref t_NoNeighbour) = some false)
    (ki_BadDay_Both : PySem.W.kitOne K (.ref t_BadDay) (.ref t_Both) = some false)
    (ki_BadDay_OutOfBounds : PySem.W.kitOne K (.ref t_BadDay) (.ref t_OutOfBounds) = some false)
    (ki_BadDay_BadTown : PySem.W.kitOne K (.ref t_BadDay) (.ref t_BadTown) = some false)
    (ki_BadDay_BadDay : PySem.W.kitOne K (.ref t_BadDay) (.ref t_BadDay) = some true)
    (ki_BadDay_ValueError : PySem.W.kitOne K (.ref t_BadDay) (.type "ValueError") = some true)
    (ke_BadDay_RingError : PySem.W.exmOne K (.ref t_BadDay) (.ref t_RingError) = some true)
    {t_MOST : Tok} (v_MOST : PySem.W.nsIn K mainGlobals "MOST" = some (some (.int (1000000000000000000000000000000) t_MOST)))
    {t_MOST_NAME : Tok} (v_MOST_NAME : PySem.W.nsIn K mainGlobals "MOST_NAME" = some (some (.int (8) t_MOST_NAME)))
    {t_MOST_NEIGHBOURS : Tok} (v_MOST_NEIGHBOURS : PySem.W.nsIn K mainGlobals "MOST_NEIGHBOURS" = some (some (.int (12) t_MOST_NEIGHBOURS)))
    {t_MOST_SKILLS : Tok} (v_MOST_SKILLS : PySem.W.nsIn K mainGlobals "MOST_SKILLS" = some (some (.int (12) t_MOST_SKILLS)))
    {t_MOST_OPEN : Tok} (v_MOST_OPEN : PySem.W.nsIn K mainGlobals "MOST_OPEN" = some (some (.int (40) t_MOST_OPEN)))
    {t_LETTERS : Tok} (v_LETTERS : PySem.W.nsIn K mainGlobals "LETTERS" = some (some (.str "abcdefghijklmnopqrstuvwxyz" t_LETTERS)))
    : ∃ fd : FuncData, (∀ (s : Shared) (v : Value), BindsTo s fd ⟨[v], []⟩ [("_law_script", v)]) ∧ ∀ base : Heap, K.In base → base.Ns mainGlobals mg → FnOk l.prog w K mg base CX0 28 fa fd ["_law_script"] (spOf K (Phi 27)) := by
  have e := hfa.symm.trans (PySem.W.mg_of X G a27)
  cases e
  have F0 := fun_mk (st := st0) l0 d0 e0
  have b0 := F0.binds (ps := P0) fun _ _ _ _ _ _ us hl => match us, hl with | [_], _ => rfl
  have F1 := fun_mk (st := st1) l1 d1 e1
  have b1 := F1.binds (ps := P1) fun _ _ _ _ _ _ us hl => match us, hl with | [_, _, _], _ => rfl
  have F2 := fun_mk (st := st2) l2 d2 e2
  have b2 := F2.binds (ps := P2) fun _ _ _ _ _ _ us hl => match us, hl with | [_, _], _ => rfl
  have F3 := fun_mk (st := st3) l3 d3 e3
  have b3 := F3.binds (ps := P3) fun _ _ _ _ _ _ us hl => match us, hl with | [_], _ => rfl
  have F4 := fun_mk (st := st4) l4 d4 e4
  have b4 := F4.binds (ps := P4) fun _ _ _ _ _ _ us hl => match us, hl with | [_], _ => rfl
  have F5 := fun_mk (st := st5) l5 d5 e5
  have b5 := F5.binds (ps := P5) fun _ _ _ _ _ _ us hl => match us, hl with | [_, _], _ => rfl
  have F6 := fun_mk (st := st6) l6 d6 e6
  have b6 := F6.binds (ps := P6) fun _ _ _ _ _ _ us hl => match us, hl with | [_], _ => rfl
  have F7 := fun_mk (st := st7) l7 d7 e7
  have b7 := F7.binds (ps := P7) fun _ _ _ _ _ _ us hl => match us, hl with | [_, _], _ => rfl
  have F8 := fun_mk (st := st8) l8 d8 e8
  have b8 := F8.binds (ps := P8) fun _ _ _ _ _ _ us hl => match us, hl with | [_, _], _ => rfl
  have F9 := fun_mk (st := st9) l9 d9 e9
  have b9 := F9.binds (ps := P9) fun _ _ _ _ _ _ us hl => match us, hl with | [_, _], _ => rfl
  have F10 := fun_mk (st := st10) l10 d10 e10
  have b10 := F10.binds (ps := P10) fun _ _ _ _ _ _ us hl => match us, hl with | [_, _], _ => rfl
  have F11 := fun_mk (st := st11) l11 d11 e11
  have b11 := F11.binds (ps := P11) fun _ _ _ _ _ _ us hl => match us, hl with | [_], _ => rfl
  have F12 := fun_mk (st := st12) l12 d12 e12
  have b12 := F12.binds (ps := P12) fun _ _ _ _ _ _ us hl => match us, hl with | [_, _], _ => rfl
  have F13 := fun_mk (st := st13) l13 d13 e13
  have b13 := F13.binds (ps := P13) fun _ _ _ _ _ _ us hl => match us, hl with | [_, _, _], _ => rfl
  have F14 := fun_mk (st := st14) l14 d14 e14
  have b14 := F14.binds (ps := P14) fun _ _ _ _ _ _ us hl => match us, hl with | [_, _, _], _ => rfl
  have F15 := fun_mk (st := st15) l15 d15 e15
  have b15 := F15.binds (ps := P15) fun _ _ _ _ _ _ us hl => match us, hl with | [_], _ => rfl
  have F16 := fun_mk (st := st16) l16 d16 e16
  have b16 := F16.binds (ps := P16) fun _ _ _ _ _ _ us hl => match us, hl with | [_], _ => rfl
  have F17 := fun_mk (st := st17) l17 d17 e17
  have b17 := F17.binds (ps := P17) fun _ _ _ _ _ _ us hl => match us, hl with | [_], _ => rfl
  have F18 := fun_mk (st := st18) l18 d18 e18
  have b18 := F18.binds (ps := P18) fun _ _ _ _ _ _ us hl => match us, hl with | [_, _], _ => rfl
  have F19 := fun_mk (st := st19) l19 d19 e19
  have b19 := F19.binds (ps := P19) fun _ _ _ _ _ _ us hl => match us, hl with | [_, _], _ => rfl
  have F20 := fun_mk (st := st20) l20 d20 e20
  have b20 := F20.binds (ps := P20) fun _ _ _ _ _ _ us hl => match us, hl with | [_], _ => rfl
  have F21 := fun_mk (st := st21) l21 d21 e21
  have b21 := F21.binds (ps := P21) fun _ _ _ _ _ _ us hl => match us, hl with | [_, _], _ => rfl
  have F22 := fun_mk (st := st22) l22 d22 e22
  have b22 := F22.binds (ps := P22) fun _ _ _ _ _ _ us hl => match us, hl with | [_, _, _], _ => rfl
  have F23 := fun_mk (st := st23) l23 d23 e23
  have b23 := F23.binds (ps := P23) fun _ _ _ _ _ _ us hl => match us, hl with | [_, _, _], _ => rfl
  have F24 := fun_mk (st := st24) l24 d24 e24
  have b24 := F24.binds (ps := P24) fun _ _ _ _ _ _ us hl => match us, hl with | [_], _ => rfl
  have F25 := fun_mk (st := st25) l25 d25 e25
  have b25 := F25.binds (ps := P25) fun _ _ _ _ _ _ us hl => match us, hl with | [_, _, _], _ => rfl
  have F26 := fun_mk (st := st26) l26 d26 e26
  have b26 := F26.binds (ps := P26) fun _ _ _ _ _ _ us hl => match us, hl with | [_], _ => rfl
  have F27 := fun_mk (st := st27) l27 d27 e27
  refine ⟨PySem.W.fnOf "law" "law" (defArgs st27) (defBody st27) (defScope st27) .none kV27 dc27 pm27 an27 cd27 ct27, fun s v => .of_eq rfl, fun base _ _ => ?_⟩
  have q_RingError : clsA K "RingError" = t_RingError := by unfold clsA; rw [c_RingError]
  have q_BadTown : clsA K "BadTown" = t_BadTown := by unfold clsA; rw [c_BadTown]
  have q_BadDay : clsA K "BadDay" = t_BadDay := by unfold clsA; rw [c_BadDay]
  have q_BadDeed : clsA K "BadDeed" = t_BadDeed := by unfold clsA; rw [c_BadDeed]
  have q_Both : clsA K "Both" = t_Both := by unfold clsA; rw [c_Both]
  have q_NoDeed : clsA K "NoDeed" = t_NoDeed := by unfold clsA; rw [c_NoDeed]
  have q_NoNeighbour : clsA K "NoNeighbour" = t_NoNeighbour := by unfold clsA; rw [c_NoNeighbour]
  have q_OutOfBounds : clsA K "OutOfBounds" = t_OutOfBounds := by unfold clsA; rw [c_OutOfBounds]
  have q_TooMany : clsA K "TooMany" = t_TooMany := by unfold clsA; rw [c_TooMany]
  have q_Twice : clsA K "Twice" = t_Twice := by unfold clsA; rw [c_Twice]
  have x_BadTown : ExcF K mg "BadTown" := ⟨by rw [q_BadTown]; exact PySem.W.mg_of X G c_BadTown, ⟨_, _, _, _, eb_BadTown, by rw [q_BadTown]; exact ei_BadTown⟩, by rw [q_BadTown]; exact ek_BadTown, by rw [q_BadTown]; exact es_BadTown, by rw [q_BadTown]; exact et_BadTown⟩
  have x_BadDay : ExcF K mg "BadDay" := ⟨by rw [q_BadDay]; exact PySem.W.mg_of X G c_BadDay, ⟨_, _, _, _, eb_BadDay, by rw [q_BadDay]; exact ei_BadDay⟩, by rw [q_BadDay]; exact ek_BadDay, by rw [q_BadDay]; exact es_BadDay, by rw [q_BadDay]; exact et_BadDay⟩
  have hexc : ∀ x, x ∈ Gm.exc → ExcF K mg x := by
    intro x h
    rcases List.mem_cons.mp h with e | h
    · cases e; exact x_BadTown
    rcases List.mem_cons.mp h with e | h
    · cases e; exact x_BadDay
    cases h
  have hisx : ∀ x ds xs, (x, ds, xs) ∈ Gm.isx → IsxF K mg x ds xs := by
    intro x ds xs h
    rcases List.mem_cons.mp h with e | h
    · cases e
      refine ⟨fun c hc => ?_, .inl ⟨by rw [q_BadDeed]; exact PySem.W.mg_of X G c_BadDeed, fun c hc => ?_⟩⟩
      · rcases List.mem_cons.mp hc with e | hc
        · cases e; rw [q_BadTown]; exact ec_BadTown
        rcases List.mem_cons.mp hc with e | hc
        · cases e; rw [q_BadDay]; exact ec_BadDay
        cases hc
      · rcases List.mem_cons.mp hc with e | hc
        · cases e; rw [q_BadTown, q_BadDeed]; exact ki_BadTown_BadDeed.trans (congrArg some (by decide +kernel))
        rcases List.mem_cons.mp hc with e | hc
        · cases e; rw [q_BadDay, q_BadDeed]; exact ki_BadDay_BadDeed.trans (congrArg some (by decide +kernel))
        cases hc
    rcases List.mem_cons.mp h with e | h
    · cases e
      refine ⟨fun c hc => ?_, .inl ⟨by rw [q_NoDeed]; exact PySem.W.mg_of X G c_NoDeed, fun c hc => ?_⟩⟩
      · rcases List.mem_cons.mp hc with e | hc
        · cases e; rw [q_BadTown]; exact ec_BadTown
        rcases List.mem_cons.mp hc with e | hc
        · cases e; rw [q_BadDay]; exact ec_BadDay
        cases hc
      · rcases List.mem_cons.mp hc with e | hc
        · cases e; rw [q_BadTown, q_NoDeed]; exact ki_BadTown_NoDeed.trans (congrArg some (by decide +kernel))
        rcases List.mem_cons.mp hc with e | hc
        · cases e; rw [q_BadDay, q_NoDeed]; exact ki_BadDay_NoDeed.trans (congrArg some (by decide +kernel))
        cases hc
    rcases List.mem_cons.mp h with e | h
    · cases e
      refine ⟨fun c hc => ?_, .inl ⟨by rw [q_TooMany]; exact PySem.W.mg_of X G c_TooMany, fun c hc => ?_⟩⟩
      · rcases List.mem_cons.mp hc with e | hc
        · cases e; rw [q_BadTown]; exact ec_BadTown
        rcases List.mem_cons.mp hc with e | hc
        · cases e; rw [q_BadDay]; exact ec_BadDay
        cases hc
      · rcases List.mem_cons.mp hc with e | hc
        · cases e; rw [q_BadTown, q_TooMany]; exact ki_BadTown_TooMany.trans (congrArg some (by decide +kernel))
        rcases List.mem_cons.mp hc with e | hc
        · cases e; rw [q_BadDay, q_TooMany]; exact ki_BadDay_TooMany.trans (congrArg some (by decide +kernel))
        cases hc
    rcases List.mem_cons.mp h with e | h
    · cases e
      refine ⟨fun c hc => ?_, .inl ⟨by rw [q_Twice]; exact PySem.W.mg_of X G c_Twice, fun c hc => ?_⟩⟩
      · rcases List.mem_cons.mp hc with e | hc
        · cases e; rw [q_BadTown]; exact ec_BadTown
        rcases List.mem_cons.mp hc with e | hc
        · cases e; rw [q_BadDay]; exact ec_BadDay
        cases hc
      · rcases List.mem_cons.mp hc with e | hc
        · cases e; rw [q_BadTown, q_Twice]; exact ki_BadTown_Twice.trans (congrArg some (by decide +kernel))
        rcases List.mem_cons.mp hc with e | hc
        · cases e; rw [q_BadDay, q_Twice]; exact ki_BadDay_Twice.trans (congrArg some (by decide +kernel))
        cases hc
    rcases List.mem_cons.mp h with e | h
    · cases e
      refine ⟨fun c hc => ?_, .inl ⟨by rw [q_NoNeighbour]; exact PySem.W.mg_of X G c_NoNeighbour, fun c hc => ?_⟩⟩
      · rcases List.mem_cons.mp hc with e | hc
        · cases e; rw [q_BadTown]; exact ec_BadTown
        rcases List.mem_cons.mp hc with e | hc
        · cases e; rw [q_BadDay]; exact ec_BadDay
        cases hc
      · rcases List.mem_cons.mp hc with e | hc
        · cases e; rw [q_BadTown, q_NoNeighbour]; exact ki_BadTown_NoNeighbour.trans (congrArg some (by decide +kernel))
        rcases List.mem_cons.mp hc with e | hc
        · cases e; rw [q_BadDay, q_NoNeighbour]; exact ki_BadDay_NoNeighbour.trans (congrArg some (by decide +kernel))
        cases hc
    rcases List.mem_cons.mp h with e | h
    · cases e
      refine ⟨fun c hc => ?_, .inl ⟨by rw [q_Both]; exact PySem.W.mg_of X G c_Both, fun c hc => ?_⟩⟩
      · rcases List.mem_cons.mp hc with e | hc
        · cases e; rw [q_BadTown]; exact ec_BadTown
        rcases List.mem_cons.mp hc with e | hc
        · cases e; rw [q_BadDay]; exact ec_BadDay
        cases hc
      · rcases List.mem_cons.mp hc with e | hc
        · cases e; rw [q_BadTown, q_Both]; exact ki_BadTown_Both.trans (congrArg some (by decide +kernel))
        rcases List.mem_cons.mp hc with e | hc
        · cases e; rw [q_BadDay, q_Both]; exact ki_BadDay_Both.trans (congrArg some (by decide +kernel))
        cases hc
    rcases List.mem_cons.mp h with e | h
    · cases e
      refine ⟨fun c hc => ?_, .inl ⟨by rw [q_OutOfBounds]; exact PySem.W.mg_of X G c_OutOfBounds, fun c hc => ?_⟩⟩
      · rcases List.mem_cons.mp hc with e | hc
        · cases e; rw [q_BadTown]; exact ec_BadTown
        rcases List.mem_cons.mp hc with e | hc
        · cases e; rw [q_BadDay]; exact ec_BadDay
        cases hc
      · rcases List.mem_cons.mp hc with e | hc
        · cases e; rw [q_BadTown, q_OutOfBounds]; exact ki_BadTown_OutOfBounds.trans (congrArg some (by decide +kernel))
        rcases List.mem_cons.mp hc with e | hc
        · cases e; rw [q_BadDay, q_OutOfBounds]; exact ki_BadDay_OutOfBounds.trans (congrArg some (by decide +kernel))
        cases hc
    rcases List.mem_cons.mp h with e | h
    · cases e
      refine ⟨fun c hc => ?_, .inl ⟨by rw [q_BadTown]; exact PySem.W.mg_of X G c_BadTown, fun c hc => ?_⟩⟩
      · rcases List.mem_cons.mp hc with e | hc
        · cases e; rw [q_BadTown]; exact ec_BadTown
        rcases List.mem_cons.mp hc with e | hc
        · cases e; rw [q_BadDay]; exact ec_BadDay
        cases hc
      · rcases List.mem_cons.mp hc with e | hc
        · cases e; rw [q_BadTown]; exact ki_BadTown_BadTown.trans (congrArg some (by decide +kernel))
        rcases List.mem_cons.mp hc with e | hc
        · cases e; rw [q_BadDay, q_BadTown]; exact ki_BadDay_BadTown.trans (congrArg some (by decide +kernel))
        cases hc
    rcases List.mem_cons.mp h with e | h
    · cases e
      refine ⟨fun c hc => ?_, .inl ⟨by rw [q_BadDay]; exact PySem.W.mg_of X G c_BadDay, fun c hc => ?_⟩⟩
      · rcases List.mem_cons.mp hc with e | hc
        · cases e; rw [q_BadTown]; exact ec_BadTown
        rcases List.mem_cons.mp hc with e | hc
        · cases e; rw [q_BadDay]; exact ec_BadDay
        cases hc
      · rcases List.mem_cons.mp hc with e | hc
        · cases e; rw [q_BadTown, q_BadDay]; exact ki_BadTown_BadDay.trans (congrArg some (by decide +kernel))
        rcases List.mem_cons.mp hc with e | hc
        · cases e; rw [q_BadDay]; exact ki_BadDay_BadDay.trans (congrArg some (by decide +kernel))
        cases hc
    rcases List.mem_cons.mp h with e | h
    · cases e
      refine ⟨fun c hc => ?_, .inr ⟨PySem.W.mg_none_of X G z_ValueError, rfl, fun c hc => ?_⟩⟩
      · rcases List.mem_cons.mp hc with e | hc
        · cases e; rw [q_BadTown]; exact ec_BadTown
        rcases List.mem_cons.mp hc with e | hc
        · cases e; rw [q_BadDay]; exact ec_BadDay
        cases hc
      · rcases List.mem_cons.mp hc with e | hc
        · cases e; rw [q_BadTown]; exact ki_BadTown_ValueError.trans (congrArg some (by decide +kernel))
        rcases List.mem_cons.mp hc with e | hc
        · cases e; rw [q_BadDay]; exact ki_BadDay_ValueError.trans (congrArg some (by decide +kernel))
        cases hc
    cases h
  have htcs : ∀ x xs, (x, xs) ∈ Gm.tcs → TcsF K mg x xs := by
    intro x xs h
    rcases List.mem_cons.mp h with e | h
    · cases e
      refine ⟨by rw [q_RingError]; exact PySem.W.mg_of X G c_RingError, fun c hc => ?_⟩
      rcases List.mem_cons.mp hc with e | hc
      · cases e; rw [q_BadTown, q_RingError]; exact ke_BadTown_RingError
      rcases List.mem_cons.mp hc with e | hc
      · cases e; rw [q_BadDay, q_RingError]; exact ke_BadDay_RingError
      cases hc
    cases h
  have g0 : GOk l.prog w K mg base CX0 Gm Phi 0 := GOk.zeroG (fun b => by cases b <;> first | exact PySem.W.mg_none_of X G z_len | exact PySem.W.mg_none_of X G z_abs | exact PySem.W.mg_none_of X G z_min | exact PySem.W.mg_none_of X G z_max | exact PySem.W.mg_none_of X G z_sum | exact PySem.W.mg_none_of X G z_all | exact PySem.W.mg_none_of X G z_any | exact PySem.W.mg_none_of X G z_int | exact PySem.W.mg_none_of X G z_str | exact PySem.W.mg_none_of X G z_list | exact PySem.W.mg_none_of X G z_tuple | exact PySem.W.mg_none_of X G z_sorted | exact PySem.W.mg_none_of X G z_dict) ⟨PySem.W.mg_none_of X G z_range, PySem.W.mg_none_of X G z_zip, PySem.W.mg_none_of X G z_enumerate, PySem.W.mg_none_of X G z_isinstance, PySem.W.mg_none_of X G z_set, PySem.W.mg_none_of X G z_sorted, PySem.W.mg_none_of X G z_dict, PySem.W.mg_none_of X G z_reversed, PySem.W.mg_none_of X G z_bool⟩ (by
    intro x c h
    rcases List.mem_cons.mp h with e | h
    · cases e; exact ⟨_, PySem.W.mg_of X G v_MOST, _, rfl⟩
    rcases List.mem_cons.mp h with e | h
    · cases e; exact ⟨_, PySem.W.mg_of X G v_MOST_NAME, _, rfl⟩
    rcases List.mem_cons.mp h with e | h
    · cases e; exact ⟨_, PySem.W.mg_of X G v_MOST_NEIGHBOURS, _, rfl⟩
    rcases List.mem_cons.mp h with e | h
    · cases e; exact ⟨_, PySem.W.mg_of X G v_MOST_SKILLS, _, rfl⟩
    rcases List.mem_cons.mp h with e | h
    · cases e; exact ⟨_, PySem.W.mg_of X G v_MOST_OPEN, _, rfl⟩
    rcases List.mem_cons.mp h with e | h
    · cases e; exact ⟨_, PySem.W.mg_of X G v_LETTERS, _, rfl⟩
    cases h) hexc hisx htcs
  have g0 := g0.toX
  have g1 := g0.step (x := "is_name") (m := 1) rfl (PySem.W.mg_of X G a0) e0 rfl b0 (def_okP F0 z0 g0 k0 len0 ok0)
  have g2 := g1.step (x := "is_whole") (m := 3) rfl (PySem.W.mg_of X G a1) e1 rfl b1 (def_okP F1 z1 g1 k1 len1 ok1)
  have g3 := g2.step (x := "is_row") (m := 2) rfl (PySem.W.mg_of X G a2) e2 rfl b2 (def_okP F2 z2 g2 k2 len2 ok2)
  have g4 := g3.step (x := "is_neighbour") (m := 1) rfl (PySem.W.mg_of X G a3) e3 rfl b3 (def_okP F3 z3 g3 k3 len3 ok3)
  have g5 := g4.step (x := "need_town") (m := 1) rfl (PySem.W.mg_of X G a4) e4 rfl b4 (def_okX F4 z4 (g4.flags true false) k4 len4 nmn4 ok4)
  have g6 := g5.step (x := "is_told") (m := 2) rfl (PySem.W.mg_of X G a5) e5 rfl b5 (def_okP F5 z5 g5 k5 len5 ok5)
  have g7 := g6.step (x := "skills_of") (m := 1) rfl (PySem.W.mg_of X G a6) e6 rfl b6 (def_okP F6 z6 g6 k6 len6 ok6)
  have g8 := g7.step (x := "need_day") (m := 2) rfl (PySem.W.mg_of X G a7) e7 rfl b7 (def_okX F7 z7 (g7.flags true false) k7 len7 nmn7 ok7)
  have g9 := g8.step (x := "_law_mixed") (m := 2) rfl (PySem.W.mg_of X G a8) e8 rfl b8 (def_okP F8 z8 g8 k8 len8 ok8)
  have g10 := g9.step (x := "_law_turned") (m := 2) rfl (PySem.W.mg_of X G a9) e9 rfl b9 (def_okP F9 z9 g9 k9 len9 ok9)
  have g11 := g10.step (x := "_law_name") (m := 2) rfl (PySem.W.mg_of X G a10) e10 rfl b10 (def_okP F10 z10 g10 k10 len10 ok10)
  have g12 := g11.step (x := "_law_size") (m := 1) rfl (PySem.W.mg_of X G a11) e11 rfl b11 (def_okP F11 z11 g11 k11 len11 ok11)
  have g13 := g12.step (x := "_law_town") (m := 2) rfl (PySem.W.mg_of X G a12) e12 rfl b12 (def_okP F12 z12 g12 k12 len12 ok12)
  have g14 := g13.step (x := "_law_day") (m := 3) rfl (PySem.W.mg_of X G a13) e13 rfl b13 (def_okP F13 z13 g13 k13 len13 ok13)
  have g15 := g14.step (x := "_law_is_number") (m := 3) rfl (PySem.W.mg_of X G a14) e14 rfl b14 (def_okP F14 z14 g14 k14 len14 ok14)
  have g16 := g15.step (x := "_law_is_name") (m := 1) rfl (PySem.W.mg_of X G a15) e15 rfl b15 (def_okP F15 z15 g15 k15 len15 ok15)
  have g17 := g16.step (x := "_law_good_one") (m := 1) rfl (PySem.W.mg_of X G a16) e16 rfl b16 (def_okP F16 z16 g16 k16 len16 ok16)
  have g18 := g17.step (x := "_law_good_town") (m := 1) rfl (PySem.W.mg_of X G a17) e17 rfl b17 (def_okP F17 z17 g17 k17 len17 ok17)
  have g19 := g18.step (x := "_law_good_told") (m := 2) rfl (PySem.W.mg_of X G a18) e18 rfl b18 (def_okP F18 z18 g18 k18 len18 ok18)
  have g20 := g19.step (x := "_law_good_day") (m := 2) rfl (PySem.W.mg_of X G a19) e19 rfl b19 (def_okP F19 z19 g19 k19 len19 ok19)
  have g21 := g20.step (x := "_law_odd") (m := 1) rfl (PySem.W.mg_of X G a20) e20 rfl b20 (def_okP F20 z20 g20 k20 len20 ok20)
  have g22 := g21.step (x := "_law_changed") (m := 2) rfl (PySem.W.mg_of X G a21) e21 rfl b21 (def_okP F21 z21 g21 k21 len21 ok21)
  have g23 := g22.step (x := "_law_bent") (m := 3) rfl (PySem.W.mg_of X G a22) e22 rfl b22 (def_okP F22 z22 g22 k22 len22 ok22)
  have g24 := g23.step (x := "_law_refused") (m := 3) rfl (PySem.W.mg_of X G a23) e23 rfl b23 (def_okP F23 z23 (g23.flags false true) k23 len23 ok23)
  have g25 := g24.step (x := "_law_skills") (m := 1) rfl (PySem.W.mg_of X G a24) e24 rfl b24 (def_okP F24 z24 g24 k24 len24 ok24)
  have g26 := g25.step (x := "_law_days") (m := 3) rfl (PySem.W.mg_of X G a25) e25 rfl b25 (def_okP F25 z25 g25 k25 len25 ok25)
  have g27 := g26.step (x := "_law_words") (m := 1) rfl (PySem.W.mg_of X G a26) e26 rfl b26 (def_okP F26 z26 g26 k26 len26 ok26)
  exact def_okL F27 z27 g27 k27 len27 ok27
end K01
open PySem PySem.W PyProof.Rows
set_option maxHeartbeats 0 in
theorem PySem.Challenge.cw_hourring_k01_whole_towns_and_days_holds : PySem.Challenge.rw_hourring_k01_whole_towns_and_days.Holds := by
  w_on; o_law; k_head; (case hw => w_witness2)
  k_fill
  refine MP.walk_ofM (l := PySem.Challenge.rw_hourring_k01_whole_towns_and_days) (n := 63) (k := 28) (x := "_law_script") (sp := K01.Phi 27) rfl (by decide) rfl ⟨rfl, by decide, by decide⟩ (fun w h Y => PySem.W.kIn_of Y) rfl ?F
  case F =>
    intro w mg fa h KX G hmg
    refine' K01.all_mk KX G hmg ?a0 ?l0 ?d0 ?e0 ?a1 ?l1 ?d1 ?e1 ?a2 ?l2 ?d2 ?e2 ?a3 ?l3 ?d3 ?e3 ?a4 ?l4 ?d4 ?e4 ?a5 ?l5 ?d5 ?e5 ?a6 ?l6 ?d6 ?e6 ?a7 ?l7 ?d7 ?e7 ?a8 ?l8 ?d8 ?e8 ?a9 ?l9 ?d9 ?e9 ?a10 ?l10 ?d10 ?e10 ?a11 ?l11 ?d11 ?e11 ?a12 ?l12 ?d12 ?e12 ?a13 ?l13 ?d13 ?e13 ?a14 ?l14 ?d14 ?e14 ?a15 ?l15 ?d15 ?e15 ?a16 ?l16 ?d16 ?e16 ?a17 ?l17 ?d17 ?e17 ?a18 ?l18 ?d18 ?e18 ?a19 ?l19 ?d19 ?e19 ?a20 ?l20 ?d20 ?e20 ?a21 ?l21 ?d21 ?e21 ?a22 ?l22 ?d22 ?e22 ?a23 ?l23 ?d23 ?e23 ?a24 ?l24 ?d24 ?e24 ?a25 ?l25 ?d25 ?e25 ?a26 ?l26 ?d26 ?e26 ?a27 ?l27 ?d27 ?e27 ?z_len ?z_abs ?z_min ?z_max ?z_sum ?z_all ?z_any ?z_int ?z_str ?z_list ?z_tuple ?z_range ?z_zip ?z_enumerate ?z_isinstance ?z_set ?z_sorted ?z_dict ?z_reversed ?z_bool ?c_RingError ?c_BadTown ?c_BadDay ?c_BadDeed ?c_Both ?c_NoDeed ?c_NoNeighbour ?c_OutOfBounds ?c_TooMany ?c_Twice ?z_ValueError ?eb_BadTown ?ei_BadTown ?ek_BadTown ?es_BadTown ?et_BadTown ?ec_BadTown ?ki_BadTown_BadDeed ?ki_BadTown_NoDeed ?ki_BadTown_TooMany ?ki_BadTown_Twice ?ki_BadTown_NoNeighbour ?ki_BadTown_Both ?ki_BadTown_OutOfBounds ?ki_BadTown_BadTown ?ki_BadTown_BadDay ?ki_BadTown_ValueError ?ke_BadTown_RingError ?eb_BadDay ?ei_BadDay ?ek_BadDay ?es_BadDay ?et_BadDay ?ec_BadDay ?ki_BadDay_BadDeed ?ki_BadDay_NoDeed ?ki_BadDay_TooMany ?ki_BadDay_Twice ?ki_BadDay_NoNeighbour ?ki_BadDay_Both ?ki_BadDay_OutOfBounds ?ki_BadDay_BadTown ?ki_BadDay_BadDay ?ki_BadDay_ValueError ?ke_BadDay_RingError ?v_MOST ?v_MOST_NAME ?v_MOST_NEIGHBOURS ?v_MOST_SKILLS ?v_MOST_OPEN ?v_LETTERS
    (case a0 => k_is); (case l0 => k_is); (case d0 => k_is); (case e0 => k_is); (case a1 => k_is); (case l1 => k_is); (case d1 => k_is); (case e1 => k_is); (case a2 => k_is); (case l2 => k_is); (case d2 => k_is); (case e2 => k_is); (case a3 => k_is); (case l3 => k_is); (case d3 => k_is); (case e3 => k_is); (case a4 => k_is); (case l4 => k_is); (case d4 => k_is); (case e4 => k_is); (case a5 => k_is); (case l5 => k_is); (case d5 => k_is); (case e5 => k_is); (case a6 => k_is); (case l6 => k_is); (case d6 => k_is); (case e6 => k_is); (case a7 => k_is); (case l7 => k_is); (case d7 => k_is); (case e7 => k_is); (case a8 => k_is); (case l8 => k_is); (case d8 => k_is); (case e8 => k_is); (case a9 => k_is); (case l9 => k_is); (case d9 => k_is); (case e9 => k_is); (case a10 => k_is); (case l10 => k_is); (case d10 => k_is); (case e10 => k_is); (case a11 => k_is); (case l11 => k_is); (case d11 => k_is); (case e11 => k_is); (case a12 => k_is); (case l12 => k_is); (case d12 => k_is); (case e12 => k_is); (case a13 => k_is); (case l13 => k_is); (case d13 => k_is); (case e13 => k_is); (case a14 => k_is); (case l14 => k_is); (case d14 => k_is); (case e14 => k_is); (case a15 => k_is); (case l15 => k_is); (case d15 => k_is); (case e15 => k_is); (case a16 => k_is); (case l16 => k_is); (case d16 => k_is); (case e16 => k_is); (case a17 => k_is); (case l17 => k_is); (case d17 => k_is); (case e17 => k_is); (case a18 => k_is); (case l18 => k_is); (case d18 => k_is); (case e18 => k_is); (case a19 => k_is); (case l19 => k_is); (case d19 => k_is); (case e19 => k_is); (case a20 => k_is); (case l20 => k_is); (case d20 => k_is); (case e20 => k_is); (case a21 => k_is); (case l21 => k_is); (case d21 => k_is); (case e21 => k_is); (case a22 => k_is); (case l22 => k_is); (case d22 => k_is); (case e22 => k_is); (case a23 => k_is); (case l23 => k_is); (case d23 => k_is); (case e23 => k_is); (case a24 => k_is); (case l24 => k_is); (case d24 => k_is); (case e24 => k_is); (case a25 => k_is); (case l25 => k_is); (case d25 => k_is); (case e25 => k_is); (case a26 => k_is); (case l26 => k_is); (case d26 => k_is); (case e26 => k_is); (case a27 => k_is); (case l27 => k_is); (case d27 => k_is); (case e27 => k_is); (case z_len => k_is); (case z_abs => k_is); (case z_min => k_is); (case z_max => k_is); (case z_sum => k_is); (case z_all => k_is); (case z_any => k_is); (case z_int => k_is); (case z_str => k_is); (case z_list => k_is); (case z_tuple => k_is); (case z_range => k_is); (case z_zip => k_is); (case z_enumerate => k_is); (case z_isinstance => k_is); (case z_set => k_is); (case z_sorted => k_is); (case z_dict => k_is); (case z_reversed => k_is); (case z_bool => k_is); (case c_RingError => k_is); (case c_BadTown => k_is); (case c_BadDay => k_is); (case c_BadDeed => k_is); (case c_Both => k_is); (case c_NoDeed => k_is); (case c_NoNeighbour => k_is); (case c_OutOfBounds => k_is); (case c_TooMany => k_is); (case c_Twice => k_is); (case z_ValueError => k_is); (case eb_BadTown => exact PySem.F.excBase_ValueError); (case ei_BadTown => k_exc); (case ek_BadTown => k_is); (case es_BadTown => k_is); (case et_BadTown => k_is); (case ec_BadTown => (constructor <;> k_is)); (case ki_BadTown_BadDeed => kit_is); (case ki_BadTown_NoDeed => kit_is); (case ki_BadTown_TooMany => kit_is); (case ki_BadTown_Twice => kit_is); (case ki_BadTown_NoNeighbour => kit_is); (case ki_BadTown_Both => kit_is); (case ki_BadTown_OutOfBounds => kit_is); (case ki_BadTown_BadTown => kit_is); (case ki_BadTown_BadDay => kit_is); (case ki_BadTown_ValueError => kit_is); (case ke_BadTown_RingError => kts_exm); (case eb_BadDay => exact PySem.F.excBase_ValueError); (case ei_BadDay => k_exc); (case ek_BadDay => k_is); (case es_BadDay => k_is); (case et_BadDay => k_is); (case ec_BadDay => (constructor <;> k_is)); (case ki_BadDay_BadDeed => kit_is); (case ki_BadDay_NoDeed => kit_is); (case ki_BadDay_TooMany => kit_is); (case ki_BadDay_Twice => kit_is); (case ki_BadDay_NoNeighbour => kit_is); (case ki_BadDay_Both => kit_is); (case ki_BadDay_OutOfBounds => kit_is); (case ki_BadDay_BadTown => kit_is); (case ki_BadDay_BadDay => kit_is); (case ki_BadDay_ValueError => kit_is); (case ke_BadDay_RingError => kts_exm); (case v_MOST => k_is); (case v_MOST_NAME => k_is); (case v_MOST_NEIGHBOURS => k_is); (case v_MOST_SKILLS => k_is); (case v_MOST_OPEN => k_is); (case v_LETTERS => k_is)

