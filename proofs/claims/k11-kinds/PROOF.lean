import PyProof.Rows.All
import Wide.All
import OpenK.AllK
import Wide.FinOn
import HandS.ForMost
import HandS.ForExc
import HandS.IsInst
import HandS.TupAny
import HandS.Deep
import HandS.Walk
import HandS.Wide
import HandS.Style
import HandS.Zip
import HandS.Codes
import HandS.SetFor
import HandS.Strs
import HandS.TupSets
import HandS.SortInts
import HandS.More
import PySem.Challenge.RW_unseenmap_k11_kinds_recognized
set_option Elab.async false
set_option linter.all false
section
set_option maxRecDepth 100000
set_option maxHeartbeats 2000000
/-! A layer of our own over the hand layer: values as trees (W), a store of mutable objects, expressions and statements as functions over them. -/
namespace RL
open PySem PySem.Spec L2

/-! ### values, objects, results -/
inductive W where
  | non | bl (b : Bool) | int (i : Int) | str (x : Str)
  | ty (n : String)
  | gl (x : Str)
  | ref (l : Nat)
  | tup (ws : List W)
  | lst (ws : List W)
  | flst (ws : List W)
  | dic (ks : List Key) (ws : List W)
  | ins (c : Str) (ns : List Str) (ws : List W)
  deriving Inhabited
inductive Ob where
  | lst (ws : List W)
  | dic (ks : List Key) (ws : List W)
  | ins (c : Str) (ns : List Str) (ws : List W)
  deriving Inhabited
abbrev Store := List Ob
abbrev Env' := List (Option W)
inductive Res (α : Type) where
  | ok (a : α) (S : Store)
  | exc (c : Str) (ns : List Str) (ws : List W) (S : Store)
  | bad
def Res.bind {α β : Type} (r : Res α) (k : α → Store → Res β) : Res β := match r with
  | .ok a S => k a S
  | .exc c ns ws S => .exc c ns ws S
  | .bad => .bad
/-- what runs in a frame -/
abbrev SM (α : Type) := Env' → Store → Res α

/-! ### how they lie in a heap -/
def KList (K : PySem.W.Frag) (a : Addr) (xs : List V) : Prop :=
  ∃ (o : Obj) (its : Array Value) (n : Nat), K.lookup a = some o ∧ o.cls = .type "list" ∧ o.dict = none ∧ o.data = .seq its n ∧ its.size ≤ sizeLine ∧ Vals xs its.toList
def KTup (K : PySem.W.Frag) (a : Addr) (xs : List V) : Prop :=
  ∃ (o : Obj) (its : Array Value) (n : Nat), K.lookup a = some o ∧ o.cls = .type "tuple" ∧ o.data = .seq its n ∧ its.size ≤ sizeLine ∧ Vals xs its.toList

/-- where the store's objects lie (r); what else is in flux: the lists of the comprehensions around (t) -/
structure RT where
  r : List Addr
  t : List Addr
/-- tracked, and no mutable object of the store -/
def Fx (ρ : RT) (H : Hp) (a : Addr) (o : HO) : Prop := H a = some o ∧ a ∉ ρ.r ∧ a ∉ ρ.t
section
variable (K : PySem.W.Frag) (mg : Str → Option Value) (ρ : RT) (H : Hp)
mutual
inductive RW : W → V → Prop where
  | non : RW .non .non
  | bl (b : Bool) : RW (.bl b) (.bl b)
  | int (i : Int) : RW (.int i) (.int i)
  | str (x : Str) : RW (.str x) (.str x)
  | ty (n : String) : RW (.ty n) (.ty n)
  | gl {x : Str} {a : Addr} (h : mg x = some (.ref a)) : RW (.gl x) (.ref a)
  | ref {l : Nat} {a : Addr} (h : ρ.r[l]? = some a) : RW (.ref l) (.ref a)
  | tup {a : Addr} {vs : List V} {ws : List W} (h : Fx ρ H a (.tup vs) ∨ KTup K a vs) (r : RWs ws vs) : RW (.tup ws) (.ref a)
  | lst {a : Addr} {vs : List V} {ws : List W} (h : Fx ρ H a (.lst vs)) (r : RWs ws vs) : RW (.lst ws) (.ref a)
  | flst {a : Addr} {vs : List V} {ws : List W} (h : (∃ o, Fx ρ H a (.frz o (.lst vs))) ∨ KList K a vs) (r : RWs ws vs) : RW (.flst ws) (.ref a)
  | dic {a : Addr} {ks : List Key} {ws : List W} {vs : List V} (h : Fx ρ H a (.dK (ks.zip vs))) (hl : ks.length = vs.length) (r : RWs ws vs) : RW (.dic ks ws) (.ref a)
  | ins {a C dx : Addr} {c : Str} {ns : List Str} {ws : List W} {vs : List V} (hc : mg c = some (.ref C)) (h : Fx ρ H a (.ins C dx (ns.zip vs))) (hl : ns.length = vs.length) (r : RWs ws vs) : RW (.ins c ns ws) (.ref a)
inductive RWs : List W → List V → Prop where
  | nil : RWs [] []
  | cons {w : W} {v : V} {ws : List W} {vs : List V} (h : RW w v) (t : RWs ws vs) : RWs (w :: ws) (v :: vs)
end
inductive RO : Addr → Ob → Prop where
  | lst {a : Addr} {vs : List V} {ws : List W} (h : H a = some (.lst vs)) (r : RWs K mg ρ H ws vs) : RO a (.lst ws)
  | dic {a : Addr} {ks : List Key} {ws : List W} {vs : List V} (h : H a = some (.dK (ks.zip vs))) (hl : ks.length = vs.length) (r : RWs K mg ρ H ws vs) : RO a (.dic ks ws)
  | ins {a C dx : Addr} {c : Str} {ns : List Str} {ws : List W} {vs : List V} (hc : mg c = some (.ref C)) (h : H a = some (.ins C dx (ns.zip vs))) (hl : ns.length = vs.length) (r : RWs K mg ρ H ws vs) : RO a (.ins c ns ws)
structure RepS (S : Store) : Prop where
  len : ρ.r.length = S.length
  nd : ρ.r.Nodup
  ob : ∀ (l : Nat) (o : Ob), S[l]? = some o → ∃ a, ρ.r[l]? = some a ∧ RO K mg ρ H a o
  tk : ∀ a, a ∈ ρ.t → H a ≠ none ∧ a ∉ ρ.r
structure REnv (s : Env') (σ : St) : Prop where
  len : s.length = σ.length
  look : ∀ (i : Nat) (w : W), s[i]? = some (some w) → ∃ v, σ[i]? = some (some v) ∧ RW K mg ρ H w v
end
/-- later: the store has grown, what is no object of the store stands as it stood -/
structure Ext (ρ : RT) (H : Hp) (ρ' : RT) (H' : Hp) : Prop where
  pre : ∀ (l : Nat) a, ρ.r[l]? = some a → ρ'.r[l]? = some a
  sub : ∀ b, b ∈ ρ.t → b ∈ ρ'.t
  newt : ∀ b, b ∈ ρ'.t → b ∈ ρ.t ∨ H b = none
  keep : ∀ b o, H b = some o → b ∉ ρ.r → H' b = some o
  new : ∀ b, b ∈ ρ'.r → b ∈ ρ.r ∨ H b = none
  still : ∀ b, b ∈ ρ.r → H b ≠ none → H' b ≠ none
theorem Ext.refl (ρ : RT) (H : Hp) : Ext ρ H ρ H := ⟨fun _ _ h => h, fun _ h => h, fun _ h => .inl h, fun _ _ h _ => h, fun _ h => .inl h, fun _ _ h => h⟩
theorem Ext.not {ρ ρ' : RT} {H H' : Hp} (e : Ext ρ H ρ' H') {a : Addr} {o : HO} (h : H a = some o) (n : a ∉ ρ.r) : a ∉ ρ'.r := fun m => by
  rcases e.new a m with z | z
  · exact n z
  · rw [h] at z; cases z
theorem Ext.trans {ρ ρ1 ρ2 : RT} {H H1 H2 : Hp} (a : Ext ρ H ρ1 H1) (b : Ext ρ1 H1 ρ2 H2) : Ext ρ H ρ2 H2 where
  pre := fun l x h => b.pre l x (a.pre l x h)
  sub := fun x m => b.sub x (a.sub x m)
  newt := fun x m => by
    rcases b.newt x m with z | z
    · exact a.newt x z
    · cases q : H x with
      | none => exact .inr rfl
      | some o =>
        by_cases hx : x ∈ ρ.r
        · exact absurd z (a.still x hx (by rw [q]; simp))
        · rw [a.keep x o q hx] at z; cases z
  keep := fun x o h n => b.keep x o (a.keep x o h n) (a.not h n)
  new := fun x m => by
    rcases b.new x m with z | z
    · exact a.new x z
    · by_cases hx : x ∈ ρ.r
      · exact .inl hx
      · cases q : H x with
        | none => exact .inr rfl
        | some o => rw [a.keep x o q hx] at z; cases z
  still := fun x m h => by
    have m1 : x ∈ ρ1.r := by
      obtain ⟨i, hi⟩ := List.mem_iff_getElem?.mp m
      exact List.mem_iff_getElem?.mpr ⟨i, a.pre i x hi⟩
    exact b.still x m1 (a.still x m h)
theorem Fx.ext {ρ ρ' : RT} {H H' : Hp} {a : Addr} {o : HO} (h : Fx ρ H a o) (e : Ext ρ H ρ' H') : Fx ρ' H' a o := ⟨e.keep _ _ h.1 h.2.1, e.not h.1 h.2.1, fun m => (e.newt a m).elim h.2.2 fun z => by rw [h.1] at z; cases z⟩
section
variable {K : PySem.W.Frag} {mg : Str → Option Value} {ρ ρ' : RT} {H H' : Hp}
mutual
theorem RW.ext (e : Ext ρ H ρ' H') : ∀ {w : W} {v : V}, RW K mg ρ H w v → RW K mg ρ' H' w v
  | _, _, .non => .non
  | _, _, .bl b => .bl b
  | _, _, .int b => .int b
  | _, _, .str b => .str b
  | _, _, .ty b => .ty b
  | _, _, .gl h => .gl h
  | _, _, .ref h => .ref (e.pre _ _ h)
  | _, _, .tup h r => .tup (h.imp (fun z => z.ext e) id) (RWs.ext e r)
  | _, _, .lst h r => .lst (h.ext e) (RWs.ext e r)
  | _, _, .flst h r => .flst (h.imp (fun ⟨o, z⟩ => ⟨o, z.ext e⟩) id) (RWs.ext e r)
  | _, _, .dic h hl r => .dic (h.ext e) hl (RWs.ext e r)
  | _, _, .ins hc h hl r => .ins hc (h.ext e) hl (RWs.ext e r)
theorem RWs.ext (e : Ext ρ H ρ' H') : ∀ {ws : List W} {vs : List V}, RWs K mg ρ H ws vs → RWs K mg ρ' H' ws vs
  | _, _, .nil => .nil
  | _, _, .cons h t => .cons (RW.ext e h) (RWs.ext e t)
end
theorem RWs.length : ∀ {ws : List W} {vs : List V}, RWs K mg ρ H ws vs → ws.length = vs.length
  | _, _, .nil => rfl
  | _, _, .cons _ t => by rw [List.length_cons, List.length_cons, t.length]
theorem RWs.get : ∀ {ws : List W} {vs : List V} {i : Nat} {w : W}, RWs K mg ρ H ws vs → ws[i]? = some w → ∃ v, vs[i]? = some v ∧ RW K mg ρ H w v
  | _, _, _, _, .nil, h => by simp at h
  | _, _, 0, _, .cons r _, h => by simp at h; subst h; exact ⟨_, rfl, r⟩
  | _, _, i + 1, _, .cons _ t, h => by
    obtain ⟨v, h1, h2⟩ := t.get (i := i) (by simpa using h)
    exact ⟨v, by simpa using h1, h2⟩
theorem RWs.get' : ∀ {ws : List W} {vs : List V} {i : Nat} {v : V}, RWs K mg ρ H ws vs → vs[i]? = some v → ∃ w, ws[i]? = some w ∧ RW K mg ρ H w v
  | _, _, _, _, .nil, h => by simp at h
  | _, _, 0, _, .cons r _, h => by simp at h; subst h; exact ⟨_, rfl, r⟩
  | _, _, i + 1, _, .cons _ t, h => by
    obtain ⟨v, h1, h2⟩ := t.get' (i := i) (by simpa using h)
    exact ⟨v, by simpa using h1, h2⟩
theorem RWs.append : ∀ {ws ws' : List W} {vs vs' : List V}, RWs K mg ρ H ws vs → RWs K mg ρ H ws' vs' → RWs K mg ρ H (ws ++ ws') (vs ++ vs')
  | _, _, _, _, .nil, h => h
  | _, _, _, _, .cons r t, h => .cons r (t.append h)
theorem RWs.take : ∀ {ws : List W} {vs : List V} (n : Nat), RWs K mg ρ H ws vs → RWs K mg ρ H (ws.take n) (vs.take n)
  | _, _, 0, _ => .nil
  | _, _, _ + 1, .nil => .nil
  | _, _, n + 1, .cons r t => .cons r (t.take n)
theorem RWs.drop : ∀ {ws : List W} {vs : List V} (n : Nat), RWs K mg ρ H ws vs → RWs K mg ρ H (ws.drop n) (vs.drop n)
  | _, _, 0, r => r
  | _, _, _ + 1, .nil => .nil
  | _, _, n + 1, .cons _ t => t.drop n
theorem RWs.set {w : W} {v : V} (r : RW K mg ρ H w v) : ∀ {ws : List W} {vs : List V} (i : Nat), RWs K mg ρ H ws vs → RWs K mg ρ H (ws.set i w) (vs.set i v)
  | _, _, _, .nil => .nil
  | _, _, 0, .cons _ t => .cons r t
  | _, _, i + 1, .cons q t => .cons q (t.set r i)
theorem RWs.nil_of {vs : List V} (r : RWs K mg ρ H [] vs) : vs = [] := by cases r; rfl
theorem RWs.one {w : W} {vs : List V} (r : RWs K mg ρ H [w] vs) : ∃ v, vs = [v] ∧ RW K mg ρ H w v := by
  cases r with | cons h t => cases t; exact ⟨_, rfl, h⟩
theorem RWs.two {w w' : W} {vs : List V} (r : RWs K mg ρ H [w, w'] vs) : ∃ v v', vs = [v, v'] ∧ RW K mg ρ H w v ∧ RW K mg ρ H w' v' := by
  cases r with | cons h t => obtain ⟨v', rfl, h'⟩ := t.one; exact ⟨_, _, rfl, h, h'⟩

theorem RO.ext (e : Ext ρ H ρ' H') {a : Addr} {o : Ob} (hs : H' a = H a) (h : RO K mg ρ H a o) : RO K mg ρ' H' a o := by
  cases h with
  | lst h r => exact .lst (hs.trans h) (r.ext e)
  | dic h hl r => exact .dic (hs.trans h) hl (r.ext e)
  | ins hc h hl r => exact .ins hc (hs.trans h) hl (r.ext e)
theorem RO.there {a : Addr} {o : Ob} (h : RO K mg ρ H a o) : ∃ u, H a = some u := by
  cases h with
  | lst h r => exact ⟨_, h⟩
  | dic h hl r => exact ⟨_, h⟩
  | ins hc h hl r => exact ⟨_, h⟩
theorem RepS.mem {S : Store} (R : RepS K mg ρ H S) {a : Addr} (h : a ∈ ρ.r) : ∃ u, H a = some u := by
  obtain ⟨i, hi⟩ := List.mem_iff_getElem?.mp h
  have hl : i < ρ.r.length := (List.getElem?_eq_some_iff.mp hi).1
  have hs : i < S.length := by rw [← R.len]; exact hl
  obtain ⟨a', h1, h2⟩ := R.ob i S[i] (List.getElem?_eq_getElem hs)
  rw [hi] at h1; cases h1
  exact h2.there
theorem RepS.fresh {S : Store} (R : RepS K mg ρ H S) {p : Addr} (h : H p = none) : p ∉ ρ.r ∧ p ∉ ρ.t := by
  refine ⟨fun m => ?_, fun m => (R.tk p m).1 h⟩
  obtain ⟨u, e⟩ := R.mem m
  rw [h] at e; cases e
/-- a new tree's root -/
theorem RepS.tree {S : Store} (R : RepS K mg ρ H S) {p : Addr} (h : H p = none) (o : HO) : Ext ρ H ρ (upd H p o) ∧ RepS K mg ρ (upd H p o) S := by
  have e : Ext ρ H ρ (upd H p o) := ⟨fun _ _ h => h, fun _ h => h, fun _ h => .inl h, fun b u hb _ => by rw [upd_ne (ne_of_none hb h)]; exact hb, fun _ h => .inl h, fun b m hb => by
    have n : b ≠ p := fun z => (R.fresh h).1 (z ▸ m)
    rw [upd_ne n]; exact hb⟩
  refine ⟨e, R.len, R.nd, fun l ob hl => ?_, fun a m => ⟨?_, (R.tk a m).2⟩⟩
  · obtain ⟨a, h1, h2⟩ := R.ob l ob hl
    refine ⟨a, h1, h2.ext e (upd_ne fun z => ?_)⟩
    exact (R.fresh h).1 (z ▸ List.mem_of_getElem? h1)
  · rw [upd_ne (fun z : a = p => (R.fresh h).2 (z ▸ m))]; exact (R.tk a m).1
theorem fx_new {S : Store} (R : RepS K mg ρ H S) {p : Addr} (h : H p = none) (o : HO) : Fx ρ (upd H p o) p o := ⟨upd_same, R.fresh h⟩
/-- one object more -/
def RT.snoc (ρ : RT) (p : Addr) : RT := ⟨ρ.r ++ [p], ρ.t⟩
theorem ext_push {S : Store} (R : RepS K mg ρ H S) {p : Addr} (h : H p = none) (o : HO) : Ext ρ H (ρ.snoc p) (upd H p o) := by
  have np := (R.fresh h).1
  exact ⟨fun l a hl => by show (ρ.r ++ [p])[l]? = some a; rw [List.getElem?_append_left (List.getElem?_eq_some_iff.mp hl).1]; exact hl, fun _ h => h, fun _ h => .inl h, fun b u hb _ => by rw [upd_ne (ne_of_none hb h)]; exact hb, fun b m => by
    rcases List.mem_append.mp (show b ∈ ρ.r ++ [p] from m) with z | z
    · exact .inl z
    · have : b = p := by simpa using z
      exact .inr (this ▸ h), fun b m hb => by
    have n : b ≠ p := fun z => np (z ▸ m)
    rw [upd_ne n]; exact hb⟩
/-- a new object of the store -/
theorem RepS.push {S : Store} (R : RepS K mg ρ H S) {p : Addr} (h : H p = none) {o : HO} {u : Ob} (ho : RO K mg (ρ.snoc p) (upd H p o) p u) : Ext ρ H (ρ.snoc p) (upd H p o) ∧ RepS K mg (ρ.snoc p) (upd H p o) (S ++ [u]) := by
  have np := (R.fresh h).1
  have e := ext_push R h o
  refine ⟨e, by show (ρ.r ++ [p]).length = _; rw [List.length_append, List.length_append, R.len]; rfl, ?_, fun l ob hl => ?_, fun a m => ⟨?_, fun z => ?_⟩⟩
  · refine List.nodup_append.mpr ⟨R.nd, by simp, fun a ha b hb z => ?_⟩
    have q : b = p := by simpa using hb
    exact np (by rw [← q, ← z]; exact ha)
  · by_cases hlt : l < S.length
    · rw [List.getElem?_append_left hlt] at hl
      obtain ⟨a, h1, h2⟩ := R.ob l ob hl
      exact ⟨a, e.pre _ _ h1, h2.ext e (upd_ne fun z => np (z ▸ List.mem_of_getElem? h1))⟩
    · have hl' : l = S.length := by
        have z := (List.getElem?_eq_some_iff.mp hl).1
        rw [List.length_append, List.length_singleton] at z
        omega
      subst hl'
      rw [List.getElem?_append_right (Nat.le_refl _), Nat.sub_self] at hl
      cases (show some u = some ob from hl)
      exact ⟨p, by show (ρ.r ++ [p])[S.length]? = _; rw [← R.len, List.getElem?_append_right (Nat.le_refl _), Nat.sub_self]; rfl, ho⟩
  · rw [upd_ne (fun z : a = p => (R.fresh h).2 (z ▸ m))]; exact (R.tk a m).1
  · rcases List.mem_append.mp (show a ∈ ρ.r ++ [p] from z) with z | z
    · exact (R.tk a m).2 z
    · have : a = p := by simpa using z
      exact (R.fresh h).2 (this ▸ m)
/-- an object of the store is changed -/
theorem RepS.wr {S : Store} (R : RepS K mg ρ H S) {l : Nat} {a : Addr} (hl : ρ.r[l]? = some a) {o : HO} {u : Ob} (ho : RO K mg ρ (upd H a o) a u) : Ext ρ H ρ (upd H a o) ∧ RepS K mg ρ (upd H a o) (S.set l u) := by
  have ma : a ∈ ρ.r := List.mem_of_getElem? hl
  have e : Ext ρ H ρ (upd H a o) := ⟨fun _ _ h => h, fun _ h => h, fun _ h => .inl h, fun b u hb n => by rw [upd_ne fun z : b = a => n (by rw [z]; exact ma)]; exact hb, fun _ h => .inl h, fun b _ hb => by
    by_cases hz : b = a
    · subst hz; rw [upd_same]; simp
    · rw [upd_ne hz]; exact hb⟩
  refine ⟨e, by rw [List.length_set]; exact R.len, R.nd, fun k ob hk => ?_, fun b m => ⟨?_, (R.tk b m).2⟩⟩
  · by_cases hkl : l = k
    · subst hkl
      have hs : l < S.length := by rw [← R.len]; exact (List.getElem?_eq_some_iff.mp hl).1
      rw [List.getElem?_set_self hs] at hk
      cases hk
      exact ⟨a, hl, ho⟩
    · rw [List.getElem?_set_ne hkl] at hk
      obtain ⟨b, h1, h2⟩ := R.ob k ob hk
      refine ⟨b, h1, h2.ext e (upd_ne fun z => hkl ?_)⟩
      subst z
      obtain ⟨i1, e1⟩ := List.getElem?_eq_some_iff.mp hl
      obtain ⟨i2, e2⟩ := List.getElem?_eq_some_iff.mp h1
      exact (List.getElem_inj R.nd).mp (e1.trans e2.symm)
  · rw [upd_ne (fun z : b = a => (R.tk b m).2 (by rw [z]; exact ma))]; exact (R.tk b m).1
theorem REnv.ext {s : Env'} {σ : St} (e : Ext ρ H ρ' H') (h : REnv K mg ρ H s σ) : REnv K mg ρ' H' s σ := ⟨h.len, fun i w hw => let ⟨v, h1, h2⟩ := h.look i w hw; ⟨v, h1, h2.ext e⟩⟩
theorem REnv.set {s : Env'} {σ : St} {w : W} {v : V} (h : REnv K mg ρ H s σ) (i : Nat) (r : RW K mg ρ H w v) : REnv K mg ρ H (s.set i (some w)) (σ.set i (some v)) := by
  refine ⟨by rw [List.length_set, List.length_set]; exact h.len, fun j u hj => ?_⟩
  by_cases hij : i = j
  · subst hij
    by_cases hi : i < s.length
    · rw [List.getElem?_set_self hi] at hj
      cases hj
      exact ⟨v, List.getElem?_set_self (by rw [← h.len]; exact hi), r⟩
    · rw [List.getElem?_eq_none (by rw [List.length_set]; omega)] at hj; cases hj
  · rw [List.getElem?_set_ne hij] at hj
    obtain ⟨v', h1, h2⟩ := h.look j u hj
    exact ⟨v', by rw [List.getElem?_set_ne hij]; exact h1, h2⟩
theorem REnv.forget {s : Env'} {σ : St} (h : REnv K mg ρ H s σ) (i : Nat) : REnv K mg ρ H (s.set i none) σ := by
  refine ⟨by rw [List.length_set]; exact h.len, fun j u hj => ?_⟩
  by_cases hij : i = j
  · subst hij
    by_cases hi : i < s.length
    · rw [List.getElem?_set_self hi] at hj; cases hj
    · rw [List.getElem?_eq_none (by rw [List.length_set]; omega)] at hj; cases hj
  · rw [List.getElem?_set_ne hij] at hj
    exact h.look j u hj
end

/-! ### what is wanted of a result -/
abbrev Rl (β : Type) (α : Type) := RT → Hp → α → β → Prop
section
variable (K : PySem.W.Frag) (mg : Str → Option Value)
def ExcOut (E : XK) (ρ : RT) (H : Hp) (c : Str) (ns : List Str) (ws : List W) (S : Store) : Prop :=
  ∀ ρ' H' C d vs, Ext ρ H ρ' H' → RepS K mg ρ' H' S → mg c = some (.ref C) → H' d = some (.xd (ns.zip vs)) → ns.length = vs.length → RWs K mg ρ' H' ws vs → E (.ref C) (some d) H'
def Out {α β : Type} (R : Rl β α) (E : XK) (ρ : RT) (H : Hp) (r : Res α) (Q : β → Hp → Prop) : Prop := match r with
  | .ok w S => ∀ ρ' H' v, Ext ρ H ρ' H' → RepS K mg ρ' H' S → R ρ' H' w v → Q v H'
  | .exc c ns ws S => ExcOut K mg E ρ H c ns ws S
  | .bad => False
/-- a reading: some store and environment stand for the heap and the slots, and the result is what is wanted -/
def tX {α β : Type} (R : Rl β α) (E : XK) (m : SM α) : St → Hp → (β → Hp → Prop) → Prop := fun σ H Q =>
  ∃ ρ s S, RepS K mg ρ H S ∧ REnv K mg ρ H s σ ∧ Out K mg R E ρ H (m s S) Q
end
section
variable {K : PySem.W.Frag} {mg : Str → Option Value} {ρ ρ' : RT} {H H' : Hp} {α β γ δ : Type} {E : XK}
theorem ExcOut.ext {c : Str} {ns : List Str} {ws : List W} {S : Store} (e : Ext ρ H ρ' H') (h : ExcOut K mg E ρ H c ns ws S) : ExcOut K mg E ρ' H' c ns ws S := fun ρ2 H2 C d vs x => h ρ2 H2 C d vs (e.trans x)
theorem Out.ext {R : Rl β α} {r : Res α} {Q : β → Hp → Prop} (e : Ext ρ H ρ' H') (h : Out K mg R E ρ H r Q) : Out K mg R E ρ' H' r Q := by
  cases r with
  | ok w S => exact fun ρ2 H2 v x => h ρ2 H2 v (e.trans x)
  | exc c ns ws S => exact ExcOut.ext e h
  | bad => exact h
theorem Out.here {R : Rl β α} {w : α} {S : Store} {Q : β → Hp → Prop} {v : β} (h : Out K mg R E ρ H (.ok w S) Q) (rep : RepS K mg ρ H S) (r : R ρ H w v) : Q v H := h ρ H v (Ext.refl _ _) rep r
theorem Out.bind {R : Rl β α} {R' : Rl δ γ} {r : Res α} {k : α → Store → Res γ} {Q : δ → Hp → Prop} {Z : β → Hp → Prop} (h : Out K mg R' E ρ H (r.bind k) Q)
    (f : ∀ ρ1 H1 a b S1, Ext ρ H ρ1 H1 → RepS K mg ρ1 H1 S1 → R ρ1 H1 a b → Out K mg R' E ρ1 H1 (k a S1) Q → Z b H1) : Out K mg R E ρ H r Z := by
  cases r with
  | ok w S => exact fun ρ1 H1 v e rep rw => f ρ1 H1 w v S e rep rw (Out.ext e h)
  | exc c ns ws S => exact h
  | bad => exact h
/-- first m, then k -/
theorem tX.bind {R : Rl β α} {R' : Rl δ γ} {m : SM α} {k : α → SM γ} {σ : St} {Q : δ → Hp → Prop} {Z : β → Hp → Prop} (h : tX K mg R' E (fun s S => (m s S).bind fun a => k a s) σ H Q)
    (f : ∀ ρ1 H1 a b s S1, RepS K mg ρ1 H1 S1 → REnv K mg ρ1 H1 s σ → R ρ1 H1 a b → Out K mg R' E ρ1 H1 (k a s S1) Q → Z b H1) : tX K mg R E m σ H Z := by
  obtain ⟨ρ, s, S, rep, env, o⟩ := h
  exact ⟨ρ, s, S, rep, env, Out.bind o fun ρ1 H1 a b S1 e rep1 r o1 => f ρ1 H1 a b s S1 rep1 (env.ext e) r o1⟩
end
end RL
end

section
set_option maxRecDepth 100000
set_option maxHeartbeats 2000000
namespace RL
open PySem PySem.Spec L2

/-- the longest list, text -/
abbrev lim : Nat := 16777216
theorem lim_line {n : Nat} (h : n ≤ lim) : n ≤ sizeLine := by rw [sizeLine_eq]; exact h
theorem lim_lt {n : Nat} (h : n < lim) : n < sizeLine := by rw [sizeLine_eq]; exact h

section
variable (X : Cx) (E : XK)
abbrev tE (m : SM W) : TE := tX X.K X.mg (RW X.K X.mg) E m
abbrev tT (m : SM Bool) : TT := tX X.K X.mg (fun _ _ a b => a = b) E m
abbrev tA (m : SM (List W)) : TA := tX X.K X.mg (RWs X.K X.mg) E m
def PM (e : Expr) (m : SM W) : Prop := PE X e (tE X E m)
def PTM (e : Expr) (m : SM Bool) : Prop := PT X e (tT X E m)
def PWM (e : Expr) (m : SM Bool) : Prop := PW X e (tT X E m)
def PAM (es : List Expr) (m : SM (List W)) : Prop := PA X es (tA X E m)
end
theorem pe_imp {X : Cx} {e : Expr} {t t' : TE} (h : PE X e t) (f : ∀ σ H Q, t' σ H Q → t σ H Q) : PE X e t' := ⟨fun pins s σ H Q I q => h.run pins s σ H Q I (f σ H Q q)⟩
theorem pt_imp {X : Cx} {e : Expr} {t t' : TT} (h : PT X e t) (f : ∀ σ H Q, t' σ H Q → t σ H Q) : PT X e t' := ⟨fun pins s σ H Q I q => h.run pins s σ H Q I (f σ H Q q)⟩
theorem pw_imp {X : Cx} {e : Expr} {t t' : TT} (h : PW X e t) (f : ∀ σ H Q, t' σ H Q → t σ H Q) : PW X e t' := ⟨fun wh pins s σ H Q I q => h.run wh pins s σ H Q I (f σ H Q q)⟩
theorem pa_imp {X : Cx} {e : List Expr} {t t' : TA} (h : PA X e t) (f : ∀ σ H Q, t' σ H Q → t σ H Q) : PA X e t' := ⟨fun p pins s σ H Q I q => h.run p pins s σ H Q I (f σ H Q q)⟩

/-! ### names, constants -/
def mVar (i : Nat) : SM W := fun s S => match s[i]? with
  | some (some w) => .ok w S
  | _ => .bad
def mC (w : W) : SM W := fun _ S => .ok w S
section
variable {X : Cx} {E : XK} {pos : Pos}
theorem pm_var (i : Nat) {x : Str} (hN : X.N[i]? = some x := by rfl) (hv : Vis X.env.scope x := by first | exact Or.inl rfl | exact Or.inr (Or.inl rfl) | exact Or.inr (Or.inr rfl)) (hd : (x == ("__debug__" : Str)) = false := by decide +kernel)
    (hcd : (x == ("__classdict__" : Str)) = false := by decide +kernel) : PM X E (.Name x pos) (mVar i) := by
  refine pe_imp (pe_var hN hv hd hcd) fun σ H Q ⟨ρ, s, S, rep, env, o⟩ => ?_
  unfold mVar at o
  cases e : s[i]? with
  | none => rw [e] at o; exact o.elim
  | some q =>
    cases q with
    | none => rw [e] at o; exact o.elim
    | some w =>
      rw [e] at o
      obtain ⟨v, h1, h2⟩ := env.look i w e
      exact ⟨v, h1, Out.here o rep h2⟩
theorem tC_of {w : W} {v : V} (h : ∀ ρ H, RW X.K X.mg ρ H w v) : ∀ σ H Q, tE X E (mC w) σ H Q → tC v σ H Q := fun σ H Q ⟨ρ, s, S, rep, env, o⟩ => Out.here o rep (h ρ H)
theorem pm_int {i j} : PM X E (.Constant (.int i) j pos) (mC (.int i)) := pe_imp pe_int (tC_of fun _ _ => .int i)
theorem pm_bl {b j} : PM X E (.Constant (.bool b) j pos) (mC (.bl b)) := pe_imp pe_bl (tC_of fun _ _ => .bl b)
theorem pm_non {j} : PM X E (.Constant .none j pos) (mC .non) := pe_imp pe_non (tC_of fun _ _ => .non)
theorem pm_str {x j} : PM X E (.Constant (.str x) j pos) (mC (.str x)) := pe_imp pe_str (tC_of fun _ _ => .str x)
/-- a module's constant -/
def KCon (K : PySem.W.Frag) (mg : Str → Option Value) (x : Str) (w : W) : Prop := ∃ u v, mg x = some u ∧ RelV v u ∧ ∀ ρ H, RW K mg ρ H w v
theorem pm_glob {x : Str} {w : W} (h : KCon X.K X.mg x w) (hg : Gl X x := by rfl) (hd : (x == ("__debug__" : Str)) = false := by decide +kernel) : PM X E (.Name x pos) (mC w) := by
  obtain ⟨u, v, hm, r, h⟩ := h
  exact pe_imp (pe_glob hg hm r hd) (tC_of h)
theorem pm_ty {x : Str} {n : String} (hm : X.mg x = none) (hv : bootBuiltins x = some (.type n) := by decide +kernel) (hg : Gl X x := by rfl) (hn : x ≠ "__name__" := by decide +kernel) (hd : (x == ("__debug__" : Str)) = false := by decide +kernel) : PM X E (.Name x pos) (mC (.ty n)) :=
  pe_imp (pe_bltn hg hm hv (v := .ty n) rfl hn hd) (tC_of fun _ _ => .ty n)
end

/-! ### operators -/
def mBin (g : W → W → Store → Res W) (ma mb : SM W) : SM W := fun s S => (ma s S).bind fun x S1 => (mb s S1).bind fun y S2 => g x y S2
def mUn (g : W → Store → Res W) (ma : SM W) : SM W := fun s S => (ma s S).bind g
def R2M (X : Cx) (E : XK) (g : W → W → Store → Res W) : R2 := fun x y H Q => ∃ ρ S w1 w2, RepS X.K X.mg ρ H S ∧ RW X.K X.mg ρ H w1 x ∧ RW X.K X.mg ρ H w2 y ∧ Out X.K X.mg (RW X.K X.mg) E ρ H (g w1 w2 S) Q
def OpM (X : Cx) (E : XK) (f : Value → Value → Sem Value) (g : W → W → Store → Res W) : Prop := OpR X f (R2M X E g)
theorem OpR.imp {X : Cx} {f : Value → Value → Sem Value} {r r' : R2} (h : OpR X f r) {x y : V} {H : Hp} {Q : VK} (hr : r' x y H Q → r x y H Q) : ∀ {pins : List (Addr × Obj)} {s : Shared} {σ : L2.St} {v u : Value}, Inv X pins σ H s → RelV x v → RelV y u → r' x y H Q → wpAny (model X.prog X.w) X.A (f v u) (EP X pins σ Q) X.xe s :=
  fun I rx ry q => h _ _ _ _ _ _ _ _ _ I rx ry (hr q)
section
variable {X : Cx} {E : XK} {pos : Pos} {a b c : Expr} {ma mb mc : SM W}
theorem t2_of {g : W → W → Store → Res W} {σ : L2.St} {H : Hp} {Q : VK} (h : tE X E (mBin g ma mb) σ H Q) : tOp (R2M X E g) (tE X E ma) (tE X E mb) σ H Q :=
  tX.bind h fun ρ1 H1 w1 x s S1 rep env r o => ⟨ρ1, s, S1, rep, env, Out.bind o fun ρ2 H2 w2 y S2 e rep2 r2 o2 => ⟨ρ2, S2, w1, w2, rep2, r.ext e, r2, o2⟩⟩
theorem pm_bin {op : Operator} {g : W → W → Store → Res W} (ho : OpM X E (binaryOp op) g) (ha : PM X E a ma) (hb : PM X E b mb) : PM X E (.BinOp a op b pos) (mBin g ma mb) := pe_imp (pe_op ho ha hb) fun _ _ _ h => t2_of h
theorem pm_cmp {op : CmpOp} {g : W → W → Store → Res W} (ho : OpM X E (compareOp op) g) (ha : PM X E a ma) (hb : PM X E b mb) (hm : behindInMarks op b = false := by first | exact nomark _ | rfl) : PM X E (.Compare a [op] [b] pos) (mBin g ma mb) := pe_imp (pe_cmpR ho ha hb hm) fun _ _ _ h => t2_of h
def UnM (X : Cx) (E : XK) (f : Value → Sem Value) (g : W → Store → Res W) : Prop := UnR X f (fun x H Q => ∃ ρ S w, RepS X.K X.mg ρ H S ∧ RW X.K X.mg ρ H w x ∧ Out X.K X.mg (RW X.K X.mg) E ρ H (g w S) Q)
theorem pm_un {op : UnaryOp} {g : W → Store → Res W} (ho : UnM X E (unaryOp op) g) (ha : PM X E a ma) : PM X E (.UnaryOp op a pos) (mUn g ma) :=
  pe_imp (pe_un ho ha) fun _ _ _ h => tX.bind h fun ρ1 H1 w x s S1 rep env r o => ⟨ρ1, S1, w, rep, r, o⟩
end

/-! ### tests -/
def asB (r : Res W) : Res Bool := r.bind fun w S => match w with
  | .bl b => .ok b S
  | _ => .bad
def seqL (S : Store) : W → Option (List W)
  | .lst ws => some ws
  | .flst ws => some ws
  | .ref l => match S[l]? with
    | some (.lst ws) => some ws
    | _ => none
  | _ => none
/-- .. a list that may be added to another (it is tracked as a list) -/
def seqM (S : Store) : W → Option (List W)
  | .lst ws => some ws
  | .ref l => match S[l]? with
    | some (.lst ws) => some ws
    | _ => none
  | _ => none
/-- a value's truth -/
def truW (S : Store) : W → Option Bool
  | .non => some false
  | .bl b => some b
  | .int i => some (i != 0)
  | .str x => if x.length ≤ lim then some ((x.length : Int) != 0) else none
  | .tup ws => some (!ws.isEmpty)
  | .lst ws => some (!ws.isEmpty)
  | .flst ws => some (!ws.isEmpty)
  | .ref l => match S[l]? with
    | some (.lst ws) => some (!ws.isEmpty)
    | _ => none
  | _ => none
def mTru (m : SM W) : SM Bool := fun s S => (m s S).bind fun w S1 => match truW S1 w with
  | some b => .ok b S1
  | none => .bad
section
variable {K : PySem.W.Frag} {mg : Str → Option Value} {ρ : RT} {H : Hp} {S : Store}
theorem rws_empty {ws : List W} {vs : List V} (r : RWs K mg ρ H ws vs) : (!ws.isEmpty) = !vs.isEmpty := by cases r <;> rfl
theorem sqT_of {a : Addr} {vs : List V} (h : Fx ρ H a (.tup vs) ∨ KTup K a vs) : SqT K H a vs := by
  rcases h with h | h
  · exact .inl (.inl h.1)
  · exact .inr h
theorem sqF_of {a : Addr} {vs : List V} (h : (∃ o, Fx ρ H a (.frz o (.lst vs))) ∨ KList K a vs) : SqL K H a vs := by
  rcases h with ⟨o, h⟩ | h
  · exact .inl (.inr ⟨o, h.1⟩)
  · exact .inr h
theorem seqL_of {w : W} {x : V} {ws : List W} (rep : RepS K mg ρ H S) (r : RW K mg ρ H w x) (h : seqL S w = some ws) : ∃ a vs, x = .ref a ∧ SqL K H a vs ∧ RWs K mg ρ H ws vs := by
  cases w with
  | lst us => cases h; cases r with | lst hf hr => exact ⟨_, _, rfl, .inl (.inl hf.1), hr⟩
  | flst us => cases h; cases r with | flst hf hr => exact ⟨_, _, rfl, sqF_of hf, hr⟩
  | ref l =>
    cases r with
    | ref hl =>
      cases e : S[l]? with
      | none => simp [seqL, e] at h
      | some ob =>
        cases ob with
        | lst us =>
          have h : us = ws := by simpa [seqL, seqM, e] using h
          subst h
          obtain ⟨a, h1, h2⟩ := rep.ob l _ e
          rw [hl] at h1; cases h1
          cases h2 with
          | lst h3 h4 => exact ⟨_, _, rfl, .inl (.inl h3), h4⟩
        | _ => simp [seqL, e] at h
  | _ => cases h
theorem seqM_of {w : W} {x : V} {ws : List W} (rep : RepS K mg ρ H S) (r : RW K mg ρ H w x) (h : seqM S w = some ws) : ∃ a vs, x = .ref a ∧ H a = some (.lst vs) ∧ RWs K mg ρ H ws vs := by
  cases w with
  | lst us => cases h; cases r with | lst hf hr => exact ⟨_, _, rfl, hf.1, hr⟩
  | ref l =>
    cases r with
    | ref hl =>
      cases e : S[l]? with
      | none => simp [seqM, e] at h
      | some ob =>
        cases ob with
        | lst us =>
          have h : us = ws := by simpa [seqL, seqM, e] using h
          subst h
          obtain ⟨a, h1, h2⟩ := rep.ob l _ e
          rw [hl] at h1; cases h1
          cases h2 with
          | lst h3 h4 => exact ⟨_, _, rfl, h3, h4⟩
        | _ => simp [seqM, e] at h
  | _ => cases h
theorem truW_of {w : W} {x : V} {b : Bool} (rep : RepS K mg ρ H S) (r : RW K mg ρ H w x) (h : truW S w = some b) : TruV K x H b := by
  cases w with
  | non => cases r; exact (Option.some.inj h).symm
  | bl c => cases r; exact (Option.some.inj h).symm
  | int i => cases r; exact (Option.some.inj h).symm
  | str y =>
    cases r
    have h : (if y.length ≤ lim then some ((y.length : Int) != 0) else none) = some b := h
    split at h
    · rename_i hz; exact ⟨lim_line hz, (Option.some.inj h).symm⟩
    · cases h
  | tup ws => cases r with | tup hf hr => exact .inr (.inl ⟨_, sqT_of hf, by rw [← rws_empty hr]; exact (Option.some.inj h).symm⟩)
  | lst ws => cases r with | lst hf hr => exact .inl ⟨_, .inl (.inl hf.1), by rw [← rws_empty hr]; exact (Option.some.inj h).symm⟩
  | flst ws => cases r with | flst hf hr => exact .inl ⟨_, sqF_of hf, by rw [← rws_empty hr]; exact (Option.some.inj h).symm⟩
  | ref l =>
    have h' : (seqL S (.ref l)).map (fun ws => !ws.isEmpty) = some b := by
      cases e : S[l]? with
      | none => simp [truW, e] at h
      | some ob => cases ob <;> first | (simp [truW, seqL, e] at h ⊢; exact h) | (simp [truW, e] at h)
    cases e : seqL S (.ref l) with
    | none => rw [e] at h'; cases h'
    | some ws =>
      rw [e] at h'
      obtain ⟨a, vs, rfl, hs, hr⟩ := seqL_of rep r e
      exact .inl ⟨vs, hs, by rw [← rws_empty hr]; exact (Option.some.inj h').symm⟩
  | _ => cases h
end
section
variable {X : Cx} {E : XK} {pos : Pos} {a b c : Expr} {ma mb mc : SM W} {na nb nc : SM Bool} {rest : List Expr}
theorem out_here {α β : Type} {K : PySem.W.Frag} {mg : Str → Option Value} {R : Rl β α} {E : XK} {ρ : RT} {H : Hp} {r : Res α} {w : α} {S : Store} {Q : β → Hp → Prop} {v : β} (h : Out K mg R E ρ H r Q) (e : r = .ok w S) (rep : RepS K mg ρ H S) (rr : R ρ H w v) : Q v H := by
  rw [e] at h; exact Out.here h rep rr
/-- an expression of any kind, as a test -/
theorem ptm_tru (h : PM X E a ma) (he : ∀ whole, isTrue a X.env whole = (do let v ← whole; standAt a.pos; holding [v] (truthy v)) := by intro _; rfl) : PTM X E a (mTru ma) :=
  pt_imp (pt_truth h he) fun σ H Q q => tX.bind q fun ρ1 H1 w x s S1 rep env r o => by
    cases e : truW S1 w with
    | none => rw [e] at o; exact o.elim
    | some k => rw [e] at o; exact ⟨k, truW_of rep r e, Out.here o rep rfl⟩
def mBT (g : W → W → Store → Res W) (ma mb : SM W) : SM Bool := fun s S => asB (mBin g ma mb s S)
theorem out_asB {K : PySem.W.Frag} {mg : Str → Option Value} {E : XK} {ρ : RT} {H : Hp} {r : Res W} {Q : Bool → Hp → Prop} (h : Out K mg (fun _ _ a b => a = b) E ρ H (asB r) Q) : Out K mg (RW K mg) E ρ H r fun x H1 => ∃ k, x = .bl k ∧ Q k H1 := by
  refine Out.bind (R' := fun _ _ (a : Bool) b => a = b) h fun ρ1 H1 w x S1 e rep r o => ?_
  cases w with
  | bl k => cases r; exact ⟨k, rfl, Out.here o rep rfl⟩
  | _ => exact o.elim
theorem Res.bind_assoc {α β γ : Type} (r : Res α) (k : α → Store → Res β) (l : β → Store → Res γ) : (r.bind k).bind l = r.bind fun a S => (k a S).bind l := by cases r <;> rfl
theorem ptm_cmp {op : CmpOp} {g : W → W → Store → Res W} (ho : OpM X E (compareOp op) g) (ha : PM X E a ma) (hb : PM X E b mb) (hm : behindInMarks op b = false := by first | exact nomark _ | rfl) : PTM X E (.Compare a [op] [b] pos) (mBT g ma mb) :=
  pt_imp (pt_cmpR ho ha hb hm) fun σ H Q ⟨ρ, s, S, rep, env, o⟩ => by
    have o' := out_asB o
    exact t2_of (g := g) ⟨ρ, s, S, rep, env, o'⟩
def mAndT (na nb : SM Bool) : SM Bool := fun s S => (na s S).bind fun c S1 => if c = true then nb s S1 else .ok false S1
def mOrT (na nb : SM Bool) : SM Bool := fun s S => (na s S).bind fun c S1 => if c = true then .ok true S1 else nb s S1
def mNotT (na : SM Bool) : SM Bool := fun s S => (na s S).bind fun c S1 => .ok (!c) S1
theorem pwm_and1 (ha : PTM X E a na) : PWM X E (.BoolOp .And [a] pos) na := pw_and1 ha
theorem pwm_or1 (ha : PTM X E a na) : PWM X E (.BoolOp .Or [a] pos) na := pw_or1 ha
theorem pwm_and (ha : PTM X E a na) (hb : PWM X E (.BoolOp .And (b :: rest) pos) nb) : PWM X E (.BoolOp .And (a :: b :: rest) pos) (mAndT na nb) :=
  pw_imp (pw_and ha hb) fun σ H Q h => tX.bind h fun ρ1 H1 c c' s S1 rep env r o => by
    cases r
    cases c with
    | true => rw [if_pos rfl] at o; rw [if_pos rfl]; exact ⟨ρ1, s, S1, rep, env, o⟩
    | false => rw [if_neg Bool.false_ne_true] at o; rw [if_neg Bool.false_ne_true]; exact Out.here o rep rfl
theorem pwm_or (ha : PTM X E a na) (hb : PWM X E (.BoolOp .Or (b :: rest) pos) nb) : PWM X E (.BoolOp .Or (a :: b :: rest) pos) (mOrT na nb) :=
  pw_imp (pw_or ha hb) fun σ H Q h => tX.bind h fun ρ1 H1 c c' s S1 rep env r o => by
    cases r
    cases c with
    | false => rw [if_neg Bool.false_ne_true] at o; rw [if_neg Bool.false_ne_true]; exact ⟨ρ1, s, S1, rep, env, o⟩
    | true => rw [if_pos rfl] at o; rw [if_pos rfl]; exact Out.here o rep rfl
theorem PWM.pt (h : PWM X E a na) : PTM X E a na := PW.pt h
theorem ptm_not (ha : PTM X E a na) : PTM X E (.UnaryOp .Not a pos) (mNotT na) :=
  pt_imp (pt_not ha) fun σ H Q h => tX.bind h fun ρ1 H1 c c' s S1 rep env r o => by cases r; exact Out.here o rep rfl
/-- and, or, not as values: all but the last True or False -/
def mAndV (ma mb : SM W) : SM W := fun s S => (ma s S).bind fun w S1 => match w with
  | .bl true => mb s S1
  | .bl false => .ok (.bl false) S1
  | _ => .bad
def mOrV (ma mb : SM W) : SM W := fun s S => (ma s S).bind fun w S1 => match w with
  | .bl true => .ok (.bl true) S1
  | .bl false => mb s S1
  | _ => .bad
def mNotV (ma : SM W) : SM W := fun s S => (ma s S).bind fun w S1 => match w with
  | .bl b => .ok (.bl (!b)) S1
  | _ => .bad
theorem pm_one {op : BoolOp} (ha : PM X E a ma) : PM X E (.BoolOp op [a] pos) ma := pe_one ha
theorem pm_and (ha : PM X E a ma) (hb : PM X E (.BoolOp .And (b :: rest) pos) mb) : PM X E (.BoolOp .And (a :: b :: rest) pos) (mAndV ma mb) :=
  pe_imp (pe_and ha hb) fun σ H Q h => tX.bind h fun ρ1 H1 w x s S1 rep env r o => by
    cases w with
    | bl k =>
      cases r
      refine ⟨k, rfl, ?_⟩
      cases k with
      | true => rw [if_pos rfl]; exact ⟨ρ1, s, S1, rep, env, o⟩
      | false => rw [if_neg Bool.false_ne_true]; exact Out.here o rep (.bl false)
    | _ => exact o.elim
theorem pm_or (ha : PM X E a ma) (hb : PM X E (.BoolOp .Or (b :: rest) pos) mb) : PM X E (.BoolOp .Or (a :: b :: rest) pos) (mOrV ma mb) :=
  pe_imp (pe_or ha hb) fun σ H Q h => tX.bind h fun ρ1 H1 w x s S1 rep env r o => by
    cases w with
    | bl k =>
      cases r
      refine ⟨k, rfl, ?_⟩
      cases k with
      | false => rw [if_neg Bool.false_ne_true]; exact ⟨ρ1, s, S1, rep, env, o⟩
      | true => rw [if_pos rfl]; exact Out.here o rep (.bl true)
    | _ => exact o.elim
theorem pm_not (ha : PM X E a ma) : PM X E (.UnaryOp .Not a pos) (mNotV ma) :=
  pe_imp (pe_not ha) fun σ H Q h => tX.bind h fun ρ1 H1 w x s S1 rep env r o => by
    cases w with
    | bl k => cases r; exact ⟨k, rfl, Out.here o rep (.bl _)⟩
    | _ => exact o.elim
def mIfE (nc : SM Bool) (ma mb : SM W) : SM W := fun s S => (nc s S).bind fun k S1 => if k = true then ma s S1 else mb s S1
theorem pm_ifExp (hc : PTM X E c nc) (ha : PM X E a ma) (hb : PM X E b mb) : PM X E (.IfExp c a b pos) (mIfE nc ma mb) :=
  pe_imp (pe_ifExp hc ha hb) fun σ H Q h => tX.bind h fun ρ1 H1 k k' s S1 rep env r o => by
    cases r
    cases k with
    | true => rw [if_pos rfl] at o; rw [if_pos rfl]; exact ⟨ρ1, s, S1, rep, env, o⟩
    | false => rw [if_neg Bool.false_ne_true] at o; rw [if_neg Bool.false_ne_true]; exact ⟨ρ1, s, S1, rep, env, o⟩
/-- a < b < c -/
def mChain (g g' : W → W → Store → Res W) (ma mb mc : SM W) : SM W := fun s S => (ma s S).bind fun x S1 => (mb s S1).bind fun y S2 => (g x y S2).bind fun z S3 => match z with
  | .bl true => (mc s S3).bind fun w S4 => g' y w S4
  | .bl false => .ok (.bl false) S3
  | _ => .bad
theorem chain_of {g g' : W → W → Store → Res W} {σ : L2.St} {H : Hp} {Q : VK} (h : tE X E (mChain g g' ma mb mc) σ H Q) : tChain (R2M X E g) (R2M X E g') (tE X E ma) (tE X E mb) (tE X E mc) σ H Q :=
  tX.bind h fun ρ1 H1 w1 x s S1 rep env r o => ⟨ρ1, s, S1, rep, env, Out.bind o fun ρ2 H2 w2 y S2 e rep2 r2 o2 => ⟨ρ2, S2, w1, w2, rep2, r.ext e, r2, Out.bind o2 fun ρ3 H3 w3 z S3 e3 rep3 r3 o3 => by
    cases w3 with
    | bl k =>
      cases r3
      refine ⟨k, rfl, ?_⟩
      cases k with
      | true => rw [if_pos rfl]; exact ⟨ρ3, s, S3, rep3, (env.ext e).ext e3, Out.bind o3 fun ρ4 H4 w4 x4 S4 e4 rep4 r4 o4 => ⟨ρ4, S4, w2, w4, rep4, (r2.ext e3).ext e4, r4, o4⟩⟩
      | false => rw [if_neg Bool.false_ne_true]; exact Out.here o3 rep3 (.bl false)
    | _ => exact o3.elim⟩⟩
theorem pm_chain {op op' : CmpOp} {g g' : W → W → Store → Res W} (ho : OpM X E (compareOp op) g) (ho' : OpM X E (compareOp op') g') (ha : PM X E a ma) (hb : PM X E b mb) (hc : PM X E c mc) (hm : lastMarks [op, op'] [b, c] = false := by with_unfolding_all rfl) :
    PM X E (.Compare a [op, op'] [b, c] pos) (mChain g g' ma mb mc) := pe_imp (pe_chain ho ho' ha hb hc hm) fun _ _ _ h => chain_of h
theorem ptm_chain {op op' : CmpOp} {g g' : W → W → Store → Res W} (ho : OpM X E (compareOp op) g) (ho' : OpM X E (compareOp op') g') (ha : PM X E a ma) (hb : PM X E b mb) (hc : PM X E c mc) (hm : lastMarks [op, op'] [b, c] = false := by with_unfolding_all rfl) :
    PTM X E (.Compare a [op, op'] [b, c] pos) (fun s S => asB (mChain g g' ma mb mc s S)) := pt_imp (pt_chain ho ho' ha hb hc hm) fun σ H Q ⟨ρ, s, S, rep, env, o⟩ => chain_of ⟨ρ, s, S, rep, env, out_asB o⟩
end
end RL
end

section
set_option maxRecDepth 100000
set_option maxHeartbeats 2000000
namespace RL
open PySem PySem.Spec L2

/-! ### operators by values -/
def gAdd (w1 w2 : W) (S : Store) : Res W := match w1 with
  | .int i => match w2 with
    | .int j => .ok (.int (i + j)) S
    | _ => .bad
  | .str x => match w2 with
    | .str y => if x.length + y.length ≤ lim then .ok (.str (x ++ y)) S else .bad
    | _ => .bad
  | .tup a => match w2 with
    | .tup b => if a.length + b.length ≤ lim then .ok (.tup (a ++ b)) S else .bad
    | _ => .bad
  | w => match seqM S w, seqM S w2 with
    | some a, some b => if a.length + b.length ≤ lim then .ok (.lst (a ++ b)) S else .bad
    | _, _ => .bad
def gI (f : Int → Int → Int) (w1 w2 : W) (S : Store) : Res W := match w1, w2 with
  | .int i, .int j => .ok (.int (f i j)) S
  | _, _ => .bad
def gIc (c : Int → Int → Bool) (f : Int → Int → Int) (w1 w2 : W) (S : Store) : Res W := match w1, w2 with
  | .int i, .int j => if c i j = true then .ok (.int (f i j)) S else .bad
  | _, _ => .bad
def gIb (f : Int → Int → Bool) (w1 w2 : W) (S : Store) : Res W := match w1, w2 with
  | .int i, .int j => .ok (.bl (f i j)) S
  | _, _ => .bad
abbrev gSub := gI fun i j => i - j
def cMul (i j : Int) : Bool := (decide (-(2 ^ 64) < i) && decide (i < 2 ^ 64)) || (decide (-(2 ^ 64) < j) && decide (j < 2 ^ 64))
/-- a product; a list times a number -/
def gMul (w1 w2 : W) (S : Store) : Res W := match w1 with
  | .int i => match w2 with
    | .int j => if cMul i j = true then .ok (.int (i * j)) S else .bad
    | _ => .bad
  | w => match seqM S w, w2 with
    | some a, .int k => if -(2 ^ 63) ≤ k ∧ k < 2 ^ 63 ∧ a.length * k.toNat ≤ lim then .ok (.lst (List.replicate k.toNat a).flatten) S else .bad
    | _, _ => .bad
abbrev gMod := gIc (fun _ j => decide (0 < j)) fun i j => i % j
abbrev gDiv := gIc (fun _ j => decide (0 < j) && decide (j < 1073741824)) fun i j => i / j
abbrev gPow := gIc (fun i j => decide (0 ≤ j) && decide (j ≤ 1000000) && decide (i.natAbs < 2 ^ 64)) fun i j => i ^ j.toNat
abbrev gLt := gIb fun i j => decide (i < j)
abbrev gLe := gIb fun i j => decide (i ≤ j)
abbrev gGt := gIb fun i j => decide (j < i)
abbrev gGe := gIb fun i j => decide (j ≤ i)
section
variable {K : PySem.W.Frag} {mg : Str → Option Value} {ρ : RT} {H : Hp} {S : Store} {E : XK} {Q : VK}
/-- the end of a rule that lays a new tree -/
theorem out_tree {w : W} {p : Addr} {u : HO} (o : Out K mg (RW K mg) E ρ H (.ok w S) Q) (rep : RepS K mg ρ H S) (hp : H p = none) (mk : Ext ρ H ρ (upd H p u) → Fx ρ (upd H p u) p u → RW K mg ρ (upd H p u) w (.ref p)) : Q (.ref p) (upd H p u) := by
  obtain ⟨e, rep'⟩ := rep.tree hp u
  exact o ρ _ _ e rep' (mk e (fx_new rep hp u))
theorem out_lst {ws : List W} {vs : List V} {p : Addr} (o : Out K mg (RW K mg) E ρ H (.ok (.lst ws) S) Q) (rep : RepS K mg ρ H S) (hp : H p = none) (r : RWs K mg ρ H ws vs) : Q (.ref p) (upd H p (.lst vs)) :=
  out_tree o rep hp fun e f => .lst f (r.ext e)
theorem out_tup {ws : List W} {vs : List V} {p : Addr} (o : Out K mg (RW K mg) E ρ H (.ok (.tup ws) S) Q) (rep : RepS K mg ρ H S) (hp : H p = none) (r : RWs K mg ρ H ws vs) : Q (.ref p) (upd H p (.tup vs)) :=
  out_tree o rep hp fun e f => .tup (.inl f) (r.ext e)
theorem RWs.flatten {ws : List W} {vs : List V} (r : RWs K mg ρ H ws vs) : ∀ n : Nat, RWs K mg ρ H (List.replicate n ws).flatten (List.replicate n vs).flatten
  | 0 => .nil
  | n + 1 => by
    rw [List.replicate_succ, List.replicate_succ, List.flatten_cons, List.flatten_cons]
    exact r.append (r.flatten n)
end
section
variable {X : Cx} {E : XK}
theorem om_add : OpM X E (binaryOp .Add) gAdd := by
  intro pins s σ H x y v u Q I rx ry ⟨ρ, S, w1, w2, rep, r1, r2, o⟩
  have lists : (∀ a b, seqM S w1 = some a → seqM S w2 = some b → gAdd w1 w2 S = if a.length + b.length ≤ lim then .ok (.lst (a ++ b)) S else .bad) → (seqM S w1 = none ∨ seqM S w2 = none → gAdd w1 w2 S = .bad) → wpAny (model X.prog X.w) X.A (binaryOp .Add v u) (EP X pins σ Q) X.xe s := fun h1 h2 => by
    cases e1 : seqM S w1 with
    | none => rw [h2 (.inl e1)] at o; exact o.elim
    | some a =>
      cases e2 : seqM S w2 with
      | none => rw [h2 (.inr e2)] at o; exact o.elim
      | some b =>
        rw [h1 a b e1 e2] at o
        split at o
        · rename_i hz
          obtain ⟨p, xs, rfl, hp, q1⟩ := seqM_of rep r1 e1
          obtain ⟨q, ys, rfl, hq, q2⟩ := seqM_of rep r2 e2
          exact op_cat pins s σ H _ _ v u Q I rx ry ⟨p, q, xs, ys, rfl, rfl, hp, hq, by rw [← q1.length, ← q2.length]; exact lim_line hz, fun l hl => out_lst o rep hl (q1.append q2)⟩
        · exact o.elim
  cases w1 with
  | int i =>
    cases w2 with
    | int j => cases r1; cases r2; exact op_add pins s σ H _ _ v u Q I rx ry ⟨i, j, rfl, rfl, Out.here o rep (.int _)⟩
    | _ => exact o.elim
  | str a =>
    cases w2 with
    | str b =>
      cases r1; cases r2
      have o : Out X.K X.mg (RW X.K X.mg) E ρ H (if a.length + b.length ≤ lim then Res.ok (W.str (a ++ b)) S else Res.bad) Q := o
      split at o
      · rename_i hz; exact op_add_str pins s σ H _ _ v u Q I rx ry ⟨a, b, rfl, rfl, lim_line hz, Out.here o rep (.str _)⟩
      · exact o.elim
    | _ => exact o.elim
  | tup a =>
    cases w2 with
    | tup b =>
      have o : Out X.K X.mg (RW X.K X.mg) E ρ H (if a.length + b.length ≤ lim then Res.ok (W.tup (a ++ b)) S else Res.bad) Q := o
      split at o
      · rename_i hz
        cases r1 with
        | tup h1 q1 =>
          cases r2 with
          | tup h2 q2 =>
            refine op_catA pins s σ H _ _ v u Q I rx ry ⟨_, _, _, _, rfl, rfl, sqT_of h1, sqT_of h2, by rw [← q1.length, ← q2.length]; exact lim_line hz, fun e => ?_, fun _ e => ?_, fun _ _ p hp => ?_⟩
            · subst e
              have : a = [] := by cases q1; rfl
              subst this
              exact Out.here o rep (.tup h2 q2)
            · subst e
              have : b = [] := by cases q2; rfl
              subst this
              rw [List.append_nil] at o
              exact Out.here o rep (.tup h1 q1)
            · exact out_tup o rep hp (q1.append q2)
      · exact o.elim
    | _ => exact o.elim
  | lst a => exact lists (fun a b e1 e2 => by simp only [gAdd, e1, e2]) (fun h => by rcases h with h | h <;> simp only [gAdd, h] <;> cases seqM S (W.lst a) <;> rfl)
  | ref a => exact lists (fun a b e1 e2 => by simp only [gAdd, e1, e2]) (fun h => by rcases h with h | h <;> simp only [gAdd, h] <;> cases seqM S (W.ref a) <;> rfl)
  | _ => exact o.elim
theorem om_I {f : Value → Value → Sem Value} {g : Int → Int → Int} (h : OpR X f (rI0 fun i j => .int (g i j))) : OpM X E f (gI g) := by
  intro pins s σ H x y v u Q I rx ry ⟨ρ, S, w1, w2, rep, r1, r2, o⟩
  cases w1 with
  | int i =>
    cases w2 with
    | int j => cases r1; cases r2; exact h pins s σ H _ _ v u Q I rx ry ⟨i, j, rfl, rfl, Out.here o rep (.int _)⟩
    | _ => exact o.elim
  | _ => exact o.elim
theorem om_Ib {f : Value → Value → Sem Value} {g : Int → Int → Bool} (h : OpR X f (rI0 fun i j => .bl (g i j))) : OpM X E f (gIb g) := by
  intro pins s σ H x y v u Q I rx ry ⟨ρ, S, w1, w2, rep, r1, r2, o⟩
  cases w1 with
  | int i =>
    cases w2 with
    | int j => cases r1; cases r2; exact h pins s σ H _ _ v u Q I rx ry ⟨i, j, rfl, rfl, Out.here o rep (.bl _)⟩
    | _ => exact o.elim
  | _ => exact o.elim
theorem om_Ic {f : Value → Value → Sem Value} {c : Int → Int → Bool} {C : Int → Int → Prop} {g : Int → Int → Int} (h : OpR X f (rI C fun i j => .int (g i j))) (hc : ∀ i j, c i j = true → C i j) : OpM X E f (gIc c g) := by
  intro pins s σ H x y v u Q I rx ry ⟨ρ, S, w1, w2, rep, r1, r2, o⟩
  cases w1 with
  | int i =>
    cases w2 with
    | int j =>
      cases r1; cases r2
      have o : Out X.K X.mg (RW X.K X.mg) E ρ H (if c i j = true then Res.ok (W.int (g i j)) S else Res.bad) Q := o
      split at o
      · rename_i hz; exact h pins s σ H _ _ v u Q I rx ry ⟨i, j, rfl, rfl, hc i j hz, Out.here o rep (.int _)⟩
      · exact o.elim
    | _ => exact o.elim
  | _ => exact o.elim
theorem om_sub : OpM X E (binaryOp .Sub) gSub := om_I op_sub
theorem om_mod : OpM X E (binaryOp .Mod) gMod := om_Ic op_mod fun _ _ h => of_decide_eq_true h
theorem om_div : OpM X E (binaryOp .FloorDiv) gDiv := om_Ic op_fdiv fun _ _ h => by simp only [Bool.and_eq_true, decide_eq_true_eq] at h; exact h
theorem om_pow : OpM X E (binaryOp .Pow) gPow := om_Ic op_pow fun _ _ h => by simp only [Bool.and_eq_true, decide_eq_true_eq] at h; exact ⟨h.1.1, h.1.2, h.2⟩
theorem om_lt : OpM X E (compareOp .Lt) gLt := om_Ib op_lt
theorem om_le : OpM X E (compareOp .LtE) gLe := om_Ib op_le
theorem om_gt : OpM X E (compareOp .Gt) gGt := om_Ib op_gt
theorem om_ge : OpM X E (compareOp .GtE) gGe := om_Ib op_ge
theorem om_mul : OpM X E (binaryOp .Mult) gMul := by
  intro pins s σ H x y v u Q I rx ry ⟨ρ, S, w1, w2, rep, r1, r2, o⟩
  have lists : (∀ a k, seqM S w1 = some a → w2 = .int k → gMul w1 w2 S = if -(2 ^ 63) ≤ k ∧ k < 2 ^ 63 ∧ a.length * k.toNat ≤ lim then .ok (.lst (List.replicate k.toNat a).flatten) S else .bad) → (seqM S w1 = none ∨ (∀ k, w2 ≠ .int k) → gMul w1 w2 S = .bad) → wpAny (model X.prog X.w) X.A (binaryOp .Mult v u) (EP X pins σ Q) X.xe s := fun h1 h2 => by
    cases e1 : seqM S w1 with
    | none => rw [h2 (.inl e1)] at o; exact o.elim
    | some a =>
      cases w2 with
      | int k =>
        rw [h1 a k e1 rfl] at o
        split at o
        · rename_i hz
          obtain ⟨p, xs, rfl, hp, q1⟩ := seqM_of rep r1 e1
          cases r2
          exact op_rep pins s σ H _ _ v u Q I rx ry ⟨p, k, xs, rfl, rfl, hp, hz.1, hz.2.1, by rw [← q1.length]; exact lim_line hz.2.2, fun l hl => out_lst o rep hl (q1.flatten _)⟩
        · exact o.elim
      | _ => rw [h2 (.inr (by intro k e; cases e))] at o; exact o.elim
  cases w1 with
  | int i =>
    cases w2 with
    | int j =>
      cases r1; cases r2
      have o : Out X.K X.mg (RW X.K X.mg) E ρ H (if cMul i j = true then Res.ok (W.int (i * j)) S else Res.bad) Q := o
      split at o
      · rename_i hz
        refine op_mul pins s σ H _ _ v u Q I rx ry ⟨i, j, rfl, rfl, ?_, Out.here o rep (.int _)⟩
        simp only [cMul, Bool.or_eq_true, Bool.and_eq_true, decide_eq_true_eq] at hz
        exact hz
      · exact o.elim
    | _ => exact o.elim
  | lst a => exact lists (fun a k e1 e2 => by subst e2; simp only [gMul, e1]) (fun h => by
      rcases h with h | h
      · simp only [gMul, h]
      · simp only [gMul]; split <;> first | rfl | exact absurd rfl (h _))
  | ref a => exact lists (fun a k e1 e2 => by subst e2; simp only [gMul, e1]) (fun h => by
      rcases h with h | h
      · simp only [gMul, h]
      · simp only [gMul]; split <;> first | rfl | exact absurd rfl (h _))
  | _ => exact o.elim
end

/-! ### ==, !=, in, not in, is -/
mutual
def toD : W → Option PyData
  | .non => some .none
  | .bl b => some (.bool b)
  | .int i => some (.int i)
  | .str x => some (.str x)
  | .tup ws => (toDs ws).map .tuple
  | .lst ws => (toDs ws).map .list
  | .flst ws => (toDs ws).map .list
  | _ => none
def toDs : List W → Option (List PyData)
  | [] => some []
  | w :: ws => match toD w, toDs ws with
    | some d, some ds => some (d :: ds)
    | _, _ => none
end
section
variable {K : PySem.W.Frag} {mg : Str → Option Value} {ρ : RT} {H : Hp} {S : Store}
mutual
theorem toD_dp : ∀ {w : W} {v : V} {d : PyData}, RW K mg ρ H w v → toD w = some d → Dp K H v d
  | _, _, _, .non, h => by cases (Option.some.inj h : PyData.none = _); exact .non
  | _, _, _, .bl b, h => by cases (Option.some.inj h : PyData.bool b = _); exact .bl b
  | _, _, _, .int i, h => by cases (Option.some.inj h : PyData.int i = _); exact .int i
  | _, _, _, .str x, h => by cases (Option.some.inj h : PyData.str x = _); exact .str x
  | _, _, _, .tup (ws := ws) hf r, h => by
    cases e : toDs ws with
    | none => simp [toD, e] at h
    | some ds => simp [toD, e] at h; subst h; exact .tup (sqT_of hf) (toDs_dp r e)
  | _, _, _, .lst (ws := ws) hf r, h => by
    cases e : toDs ws with
    | none => simp [toD, e] at h
    | some ds => simp [toD, e] at h; subst h; exact .lst (.inl (.inl hf.1)) (toDs_dp r e)
  | _, _, _, .flst (ws := ws) hf r, h => by
    cases e : toDs ws with
    | none => simp [toD, e] at h
    | some ds => simp [toD, e] at h; subst h; exact .lst (sqF_of hf) (toDs_dp r e)
  | _, _, _, .ty _, h => by cases h
  | _, _, _, .gl _, h => by cases h
  | _, _, _, .ref _, h => by cases h
  | _, _, _, .dic _ _ _, h => by cases h
  | _, _, _, .ins _ _ _ _, h => by cases h
theorem toDs_dp : ∀ {ws : List W} {vs : List V} {ds : List PyData}, RWs K mg ρ H ws vs → toDs ws = some ds → DpAll K H vs ds
  | _, _, _, .nil, h => by cases (Option.some.inj h : [] = _); exact .nil
  | _, _, _, .cons (w := w) (ws := ws) r t, h => by
    cases e1 : toD w with
    | none => simp [toDs, e1] at h
    | some d =>
      cases e2 : toDs ws with
      | none => simp [toDs, e1, e2] at h
      | some ds => simp [toDs, e1, e2] at h; subst h; exact .cons (toD_dp r e1) (toDs_dp t e2)
end
/-- a list of the store is read at its top -/
def toDT (S : Store) (w : W) : Option PyData := match w with
  | .ref _ => match seqM S w with
    | some ws => (toDs ws).map .list
    | none => none
  | w => toD w
theorem toDT_dp {w : W} {v : V} {d : PyData} (rep : RepS K mg ρ H S) (r : RW K mg ρ H w v) (h : toDT S w = some d) : Dp K H v d := by
  cases w with
  | ref l =>
    cases e : seqM S (.ref l) with
    | none => simp [toDT, e] at h
    | some ws =>
      obtain ⟨a, vs, rfl, hs, hr⟩ := seqM_of rep r e
      cases e2 : toDs ws with
      | none => simp [toDT, e, e2] at h
      | some ds => simp [toDT, e, e2] at h; subst h; exact .lst (.inl (.inl hs)) (toDs_dp hr e2)
  | _ => exact toD_dp r h
end
def xorB (neg b : Bool) : Bool := if neg then !b else b
/-- == (neg: !=) -/
def gEq (neg : Bool) (w1 w2 : W) (S : Store) : Res W := match w1, w2 with
  | .str x, .str y => .ok (.bl (xorB neg (decide (x = y)))) S
  | .int x, .int y => .ok (.bl (xorB neg (decide (x = y)))) S
  | .bl x, .bl y => .ok (.bl (xorB neg (decide (x = y)))) S
  | w1, w2 => match toDT S w1, toDT S w2 with
    | some d, some e => if SeqAt.shaped d = true ∧ SeqAt.shaped e = true then .ok (.bl (xorB neg (PyData.eqv d e))) S else .bad
    | _, _ => .bad
section
variable {X : Cx} {E : XK}
theorem gEq_deep {neg : Bool} {w1 w2 : W} {S : Store} (h : (∀ x y, w1 = .str x → w2 = .str y → False) ∧ (∀ x y, w1 = .int x → w2 = .int y → False) ∧ (∀ x y, w1 = .bl x → w2 = .bl y → False)) :
    gEq neg w1 w2 S = match toDT S w1, toDT S w2 with
    | some d, some e => if SeqAt.shaped d = true ∧ SeqAt.shaped e = true then .ok (.bl (xorB neg (PyData.eqv d e))) S else .bad
    | _, _ => .bad := by
  unfold gEq
  split
  · exact (h.1 _ _ rfl rfl).elim
  · exact (h.2.1 _ _ rfl rfl).elim
  · exact (h.2.2 _ _ rfl rfl).elim
  · rfl
theorem om_eqs {op : CmpOp} {neg : Bool} (hs : OpR X (compareOp op) (fun x y H Q => scal x y = true ∧ Q (.bl (xorB neg (decide (x = y)))) H))
    (hd : OpR X (compareOp op) (fun x y H Q => ∃ d e, Dp X.K H x d ∧ Dp X.K H y e ∧ SeqAt.shaped d = true ∧ SeqAt.shaped e = true ∧ Q (.bl (xorB neg (PyData.eqv d e))) H)) : OpM X E (compareOp op) (gEq neg) := by
  intro pins s σ H x y v u Q I rx ry ⟨ρ, S, w1, w2, rep, r1, r2, o⟩
  have deep : (∀ x y, w1 = .str x → w2 = .str y → False) ∧ (∀ x y, w1 = .int x → w2 = .int y → False) ∧ (∀ x y, w1 = .bl x → w2 = .bl y → False) → wpAny (model X.prog X.w) X.A (compareOp op v u) (EP X pins σ Q) X.xe s := fun h => by
    rw [gEq_deep h] at o
    cases e1 : toDT S w1 with
    | none => rw [e1] at o; exact o.elim
    | some d =>
      cases e2 : toDT S w2 with
      | none => rw [e1, e2] at o; exact o.elim
      | some e =>
        rw [e1, e2] at o
        dsimp only at o
        split at o
        · rename_i hz; exact hd pins s σ H x y v u Q I rx ry ⟨d, e, toDT_dp rep r1 e1, toDT_dp rep r2 e2, hz.1, hz.2, Out.here o rep (.bl _)⟩
        · exact o.elim
  cases w1 with
  | str a =>
    cases w2 with
    | str b =>
      cases r1; cases r2
      have e : decide (V.str a = V.str b) = decide (a = b) := by rw [decide_eq_decide]; exact ⟨fun z => V.str.inj z, fun z => by rw [z]⟩
      exact hs pins s σ H _ _ v u Q I rx ry ⟨rfl, by rw [e]; exact Out.here (w := W.bl (xorB neg (decide (a = b)))) o rep (.bl _)⟩
    | _ => exact deep ⟨fun _ _ _ z => (by cases z), fun _ _ z _ => (by cases z), fun _ _ z _ => (by cases z)⟩
  | int a =>
    cases w2 with
    | int b =>
      cases r1; cases r2
      have e : decide (V.int a = V.int b) = decide (a = b) := by rw [decide_eq_decide]; exact ⟨fun z => V.int.inj z, fun z => by rw [z]⟩
      exact hs pins s σ H _ _ v u Q I rx ry ⟨rfl, by rw [e]; exact Out.here (w := W.bl (xorB neg (decide (a = b)))) o rep (.bl _)⟩
    | _ => exact deep ⟨fun _ _ z _ => (by cases z), fun _ _ _ z => (by cases z), fun _ _ z _ => (by cases z)⟩
  | bl a =>
    cases w2 with
    | bl b =>
      cases r1; cases r2
      have e : decide (V.bl a = V.bl b) = decide (a = b) := by rw [decide_eq_decide]; exact ⟨fun z => V.bl.inj z, fun z => by rw [z]⟩
      exact hs pins s σ H _ _ v u Q I rx ry ⟨rfl, by rw [e]; exact Out.here (w := W.bl (xorB neg (decide (a = b)))) o rep (.bl _)⟩
    | _ => exact deep ⟨fun _ _ z _ => (by cases z), fun _ _ z _ => (by cases z), fun _ _ _ z => (by cases z)⟩
  | _ => exact deep ⟨fun _ _ z _ => (by cases z), fun _ _ z _ => (by cases z), fun _ _ z _ => (by cases z)⟩
theorem om_eq (hu : X.A.units + 64 < cLine) : OpM X E (compareOp .Eq) (gEq false) := om_eqs (neg := false) op_eq (op_eqD hu)
theorem om_ne (hu : X.A.units + 64 < cLine) : OpM X E (compareOp .NotEq) (gEq true) := om_eqs (neg := true) op_ne (op_neD hu)
end
def flatW : W → Bool
  | .non | .bl _ | .int _ | .str _ => true
  | _ => false
def eqF : W → W → Bool
  | .non, .non => true
  | .bl a, .bl b => a == b
  | .bl a, .int b => (if a then 1 else 0) == b
  | .int a, .bl b => a == (if b then 1 else 0)
  | .int a, .int b => a == b
  | .str a, .str b => a == b
  | _, _ => false
def inW (x : W) (ws : List W) : Bool := ws.any fun y => eqF y x
def tupL : W → Option (List W)
  | .tup ws => some ws
  | _ => none
/-- in (neg: not in): a text in a text; a flat value in a list or tuple of flat ones; data in a list of data -/
def gIn (neg : Bool) (w1 w2 : W) (S : Store) : Res W := match w1, w2 with
  | .str x, .str y => .ok (.bl (xorB neg (!(Builtin.Str.occurrences y x 0 y.length 1).isEmpty))) S
  | w1, w2 => match (tupL w2).or (seqL S w2) with
    | some ws => if flatW w1 = true ∧ ws.all flatW = true then .ok (.bl (xorB neg (inW w1 ws))) S else match toD w1, toDs ws with
      | some d, some ds => if (tupL w2).isNone = true ∧ SeqAt.shaped d = true ∧ SeqAt.shaped (.list ds) = true then .ok (.bl (xorB neg (ds.any fun z => PyData.eqv z d))) S else .bad
      | _, _ => .bad
    | none => .bad
section
variable {K : PySem.W.Frag} {mg : Str → Option Value} {ρ : RT} {H : Hp} {S : Store}
theorem flat_of {w : W} {v : V} (r : RW K mg ρ H w v) (h : flatW w = true) : flatV v = true := by
  cases r <;> first | rfl | cases h
theorem flats_of : ∀ {ws : List W} {vs : List V}, RWs K mg ρ H ws vs → ws.all flatW = true → vs.all flatV = true
  | _, _, .nil, _ => rfl
  | _, _, .cons r t, h => by
    rw [List.all_cons, Bool.and_eq_true] at h ⊢
    exact ⟨flat_of r h.1, flats_of t h.2⟩
theorem eqF_of {w w' : W} {v v' : V} (r : RW K mg ρ H w v) (r' : RW K mg ρ H w' v') (h : flatW w = true) (h' : flatW w' = true) : eqV v v' = eqF w w' := by
  cases r <;> first | (cases h; done) | (cases r' <;> first | rfl | (cases h'; done))
theorem inW_of {w : W} {v : V} (r : RW K mg ρ H w v) (h : flatW w = true) : ∀ {ws : List W} {vs : List V}, RWs K mg ρ H ws vs → ws.all flatW = true → inV v vs = inW w ws
  | _, _, .nil, _ => rfl
  | _, _, .cons r1 t, h1 => by
    rw [List.all_cons, Bool.and_eq_true] at h1
    have ih := inW_of r h t h1.2
    unfold inV inW at ih ⊢
    rw [List.any_cons, List.any_cons, eqF_of r1 r h1.1 h, ih]
end
section
variable {X : Cx} {E : XK}
theorem gIn_seq {neg : Bool} {w1 w2 : W} {S : Store} (h : ∀ x y, w1 = .str x → w2 = .str y → False) : gIn neg w1 w2 S = match (tupL w2).or (seqL S w2) with
    | some ws => if flatW w1 = true ∧ ws.all flatW = true then .ok (.bl (xorB neg (inW w1 ws))) S else match toD w1, toDs ws with
      | some d, some ds => if (tupL w2).isNone = true ∧ SeqAt.shaped d = true ∧ SeqAt.shaped (.list ds) = true then .ok (.bl (xorB neg (ds.any fun z => PyData.eqv z d))) S else .bad
      | _, _ => .bad
    | none => .bad := by
  unfold gIn
  split
  · exact (h _ _ rfl rfl).elim
  · rfl
theorem om_ins {op : CmpOp} {neg : Bool} (h1 : OpR X (compareOp op) (fun x y H Q => ∃ i j, x = .str i ∧ y = .str j ∧ Q (.bl (xorB neg (!(Builtin.Str.occurrences j i 0 j.length 1).isEmpty))) H))
    (h2 : OpR X (compareOp op) (rIn X.K neg)) (h3 : OpR X (compareOp op) (fun x y H Q => ∃ d ds, Dp X.K H x d ∧ Dp X.K H y (.list ds) ∧ SeqAt.shaped d = true ∧ SeqAt.shaped (.list ds) = true ∧ Q (.bl (xorB neg (ds.any fun z => PyData.eqv z d))) H)) : OpM X E (compareOp op) (gIn neg) := by
  intro pins s σ H x y v u Q I rx ry ⟨ρ, S, w1, w2, rep, r1, r2, o⟩
  have seq : (∀ x y, w1 = .str x → w2 = .str y → False) → wpAny (model X.prog X.w) X.A (compareOp op v u) (EP X pins σ Q) X.xe s := fun h => by
    rw [gIn_seq h] at o
    cases e0 : (tupL w2).or (seqL S w2) with
    | none => rw [e0] at o; exact o.elim
    | some ws =>
      rw [e0] at o
      dsimp only at o
      have lies : ∃ a vs, y = .ref a ∧ (SqL X.K H a vs ∨ SqT X.K H a vs) ∧ RWs X.K X.mg ρ H ws vs ∧ ((tupL w2).isNone = true → SqL X.K H a vs) := by
        cases w2 with
        | tup us => cases (Option.some.inj e0 : us = ws); cases r2 with | tup hf hr => exact ⟨_, _, rfl, .inr (sqT_of hf), hr, fun z => (by cases z)⟩
        | _ => obtain ⟨a, vs, rfl, hs, hr⟩ := seqL_of rep r2 (by simpa [tupL] using e0); exact ⟨a, vs, rfl, .inl hs, hr, fun _ => hs⟩
      obtain ⟨a, vs, rfl, hs, hr, hl⟩ := lies
      split at o
      · rename_i hz
        have q := Out.here o rep (.bl _)
        rw [← inW_of r1 hz.1 hr hz.2] at q
        exact h2 pins s σ H x _ v u Q I rx ry ⟨a, vs, rfl, hs, flat_of r1 hz.1, flats_of hr hz.2, q⟩
      · cases e1 : toD w1 with
        | none => rw [e1] at o; exact o.elim
        | some d =>
          cases e2 : toDs ws with
          | none => rw [e1, e2] at o; exact o.elim
          | some ds =>
            rw [e1, e2] at o
            dsimp only at o
            split at o
            · rename_i hz
              exact h3 pins s σ H x _ v u Q I rx ry ⟨d, ds, toD_dp r1 e1, .lst (hl hz.1) (toDs_dp hr e2), hz.2.1, hz.2.2, Out.here o rep (.bl _)⟩
            · exact o.elim
  cases w1 with
  | str a =>
    cases w2 with
    | str b => cases r1; cases r2; exact h1 pins s σ H _ _ v u Q I rx ry ⟨a, b, rfl, rfl, Out.here (w := W.bl _) o rep (.bl _)⟩
    | _ => exact seq fun _ _ _ z => by cases z
  | _ => exact seq fun _ _ z _ => by cases z
theorem om_in (hu : X.A.units + 65 < cLine) : OpM X E (compareOp .In) (gIn false) := om_ins (neg := false) op_in_str op_in_seq (op_inD hu)
theorem om_notIn (hu : X.A.units + 65 < cLine) : OpM X E (compareOp .NotIn) (gIn true) := om_ins (neg := true) op_notIn_str op_notIn_seq (op_notInD hu)
end
def isNonW : W → Bool
  | .non => true
  | _ => false
/-- is (neg: is not): with None, or two bools -/
def gIs (neg : Bool) (w1 w2 : W) (S : Store) : Res W := match w2 with
  | .non => .ok (.bl (xorB neg (isNonW w1))) S
  | .bl b => match w1 with
    | .bl a => .ok (.bl (xorB neg (decide (a = b)))) S
    | _ => .bad
  | _ => .bad
section
variable {X : Cx} {E : XK}
theorem om_iss {op : CmpOp} {neg : Bool} (h1 : OpR X (compareOp op) (fun x y H Q => y = .non ∧ Q (.bl (xorB neg (decide (x = .non)))) H)) (h2 : OpR X (compareOp op) (fun x y H Q => ∃ a b : Bool, x = .bl a ∧ y = .bl b ∧ Q (.bl (xorB neg (decide (a = b)))) H)) : OpM X E (compareOp op) (gIs neg) := by
  intro pins s σ H x y v u Q I rx ry ⟨ρ, S, w1, w2, rep, r1, r2, o⟩
  cases w2 with
  | non =>
    cases r2
    have e : decide (x = .non) = isNonW w1 := by cases r1 <;> first | rfl | (exact decide_eq_false (fun z => by cases z))
    exact h1 pins s σ H _ _ v u Q I rx ry ⟨rfl, by rw [e]; exact Out.here (w := W.bl _) o rep (.bl _)⟩
  | bl b =>
    cases w1 with
    | bl a => cases r1; cases r2; exact h2 pins s σ H _ _ v u Q I rx ry ⟨a, b, rfl, rfl, Out.here (w := W.bl _) o rep (.bl _)⟩
    | _ => exact o.elim
  | _ => exact o.elim
theorem om_is : OpM X E (compareOp .Is) (gIs false) := om_iss (neg := false) op_isN op_isBl
theorem om_isNot : OpM X E (compareOp .IsNot) (gIs true) := om_iss (neg := true) op_notN op_notBl
theorem um_neg : UnM X E (unaryOp .USub) (fun w S => match w with
    | .int i => .ok (.int (-i)) S
    | _ => .bad) := by
  intro pins s σ H x v Q I rx ⟨ρ, S, w, rep, r, o⟩
  cases w with
  | int i => cases r; exact un_neg pins s σ H _ v Q I rx ⟨i, rfl, Out.here (w := W.int _) o rep (.int _)⟩
  | _ => exact o.elim
end
end RL
end

section
set_option maxRecDepth 100000
set_option maxHeartbeats 2000000
namespace RL
open PySem PySem.Spec L2
open PyProof.Rows hiding St

/-! ### a[i], a[lo:hi] -/
def gIx (w1 w2 : W) (S : Store) : Res W := match w2 with
  | .int i => match w1 with
    | .str z => if z.length ≤ lim then match atI z.cps.toList i with
      | some c => .ok (.str ⟨#[c]⟩) S
      | none => .bad else .bad
    | .tup ws => match atI ws i with
      | some w => .ok w S
      | none => .bad
    | w => match (seqL S w).bind fun ws => atI ws i with
      | some w => .ok w S
      | none => .bad
  | _ => .bad
theorem atI_rws {K : PySem.W.Frag} {mg : Str → Option Value} {ρ : RT} {H : Hp} {ws : List W} {vs : List V} {i : Int} {w : W} (r : RWs K mg ρ H ws vs) (h : atI ws i = some w) : ∃ v, atI vs i = some v ∧ RW K mg ρ H w v := by
  unfold atI at h ⊢
  rw [r.length] at h
  cases e : ixN vs.length i with
  | none => rw [e] at h; cases h
  | some j =>
    rw [e] at h
    exact r.get (i := j) h
section
variable {X : Cx} {E : XK} {pos p2 : Pos} {a b : Expr} {ma mb : SM W}
theorem ix_all : IxR X (R2M X E gIx) := by
  intro value slice pins s σ H x y v u Q I rx ry ⟨ρ, S, w1, w2, rep, r1, r2, o⟩ hs
  cases w2 with
  | int i =>
    have lists : (∀ w, ((seqL S w1).bind fun ws => atI ws i) = some w → gIx w1 (.int i) S = .ok w S) → (((seqL S w1).bind fun ws => atI ws i) = none → gIx w1 (.int i) S = .bad) → wpAny (model X.prog X.w) X.A (subscriptTail value slice v u) (EP X pins σ Q) X.xe s := fun h1 h2 => by
      cases e : (seqL S w1).bind fun ws => atI ws i with
      | none => rw [h2 e] at o; exact o.elim
      | some w =>
        rw [h1 w e] at o
        cases e1 : seqL S w1 with
        | none => rw [e1] at e; cases e
        | some ws =>
          rw [e1] at e
          obtain ⟨p, vs, rfl, hl, hr⟩ := seqL_of rep r1 e1
          obtain ⟨v', h3, h4⟩ := atI_rws hr e
          cases r2
          exact ix_list value slice pins s σ H _ _ v u Q I rx ry ⟨p, vs, i, v', rfl, rfl, hl, h3, Out.here o rep h4⟩ hs
    cases w1 with
    | str z =>
      have o : Out X.K X.mg (RW X.K X.mg) E ρ H (if z.length ≤ lim then (match atI z.cps.toList i with
        | some c => Res.ok (W.str ⟨#[c]⟩) S
        | none => Res.bad) else Res.bad) Q := o
      split at o
      · rename_i hz
        cases e : atI z.cps.toList i with
        | none => rw [e] at o; exact o.elim
        | some c =>
          rw [e] at o
          cases r1; cases r2
          exact ix_str value slice pins s σ H _ _ v u Q I rx ry ⟨z, i, c, rfl, rfl, lim_line hz, e, Out.here o rep (.str _)⟩ hs
      · exact o.elim
    | tup ws =>
      have o : Out X.K X.mg (RW X.K X.mg) E ρ H (match atI ws i with
        | some w => Res.ok w S
        | none => Res.bad) Q := o
      cases e : atI ws i with
      | none => rw [e] at o; exact o.elim
      | some w =>
        rw [e] at o
        cases r1 with
        | tup hf hr =>
          obtain ⟨v', h3, h4⟩ := atI_rws hr e
          cases r2
          exact ix_tup value slice pins s σ H _ _ v u Q I rx ry ⟨_, _, i, v', rfl, rfl, sqT_of hf, h3, Out.here o rep h4⟩ hs
    | lst ws => exact lists (fun w e => by simp only [gIx, e]) (fun e => by simp only [gIx, e])
    | flst ws => exact lists (fun w e => by simp only [gIx, e]) (fun e => by simp only [gIx, e])
    | ref l => exact lists (fun w e => by simp only [gIx, e]) (fun e => by simp only [gIx, e])
    | _ => exact o.elim
  | _ => exact o.elim
theorem pm_ix (ha : PM X E a ma) (hb : PM X E b mb) (hs : PlainIx b := by exact fun _ _ => rfl) : PM X E (.Subscript a b pos) (mBin gIx ma mb) := pe_imp (pe_ix ix_all ha hb hs) fun _ _ _ h => t2_of h

def POM (X : Cx) (E : XK) (e : Option Expr) (m : SM (Option Int)) : Prop := PO X e (tX X.K X.mg (fun _ _ a b => a = b) E m)
def mNoPart : SM (Option Int) := fun _ S => .ok none S
def mPart (m : SM W) : SM (Option Int) := fun s S => (m s S).bind fun w S1 => match w with
  | .int i => .ok (some i) S1
  | _ => .bad
theorem po_imp {e : Option Expr} {t t' : TO} (h : PO X e t) (f : ∀ σ H Q, t' σ H Q → t σ H Q) : PO X e t' := ⟨fun pins s σ H Q I q => h.run pins s σ H Q I (f σ H Q q)⟩
theorem pom_none : POM X E none mNoPart := po_imp po_none fun σ H Q ⟨ρ, s, S, rep, env, o⟩ => Out.here o rep rfl
theorem pom_some (h : PM X E a ma) : POM X E (some a) (mPart ma) := po_imp (po_some h) fun σ H Q q => tX.bind q fun ρ1 H1 w x s S1 rep env r o => by
  cases w with
  | int i => cases r; exact ⟨i, rfl, Out.here o rep rfl⟩
  | _ => exact o.elim
def cutW (xs : List W) (lo hi : Option Int) : List W := (xs.drop (HT.sIx xs.length 0 lo)).take (HT.sIx xs.length xs.length hi - HT.sIx xs.length 0 lo)
theorem RWs.cut {K : PySem.W.Frag} {mg : Str → Option Value} {ρ : RT} {H : Hp} {ws : List W} {vs : List V} (r : RWs K mg ρ H ws vs) (lo hi : Option Int) : RWs K mg ρ H (cutW ws lo hi) (cutV vs lo hi) := by
  unfold cutW cutV
  rw [r.length]
  exact (r.drop _).take _
theorem cutW_whole {ws : List W} {lo hi : Option Int} (h : HT.sIx ws.length 0 lo = 0 ∧ HT.sIx ws.length ws.length hi = ws.length) : cutW ws lo hi = ws := by
  unfold cutW
  rw [h.1, h.2, List.drop_zero, Nat.sub_zero, List.take_length]
def gSl (w : W) (lo hi : Option Int) (S : Store) : Res W := match w with
  | .str z => if z.length ≤ lim then .ok (.str (cutS z lo hi)) S else .bad
  | .tup ws => .ok (.tup (cutW ws lo hi)) S
  | w => match seqL S w with
    | some ws => .ok (.lst (cutW ws lo hi)) S
    | none => .bad
theorem sl_all : SlR X (fun x lo hi H Q => ∃ ρ S w, RepS X.K X.mg ρ H S ∧ RW X.K X.mg ρ H w x ∧ Out X.K X.mg (RW X.K X.mg) E ρ H (gSl w lo hi S) Q) := by
  intro pins s σ H x v vl vu lo hi sl Q I rx hs pl pu ⟨ρ, S, w, rep, r, o⟩
  have lists : (∀ ws, seqL S w = some ws → gSl w lo hi S = .ok (.lst (cutW ws lo hi)) S) → (seqL S w = none → gSl w lo hi S = .bad) → ∃ T id, typeLookup (.type T) "__getitem__" = pure (some (.builtin id)) ∧ s.TypeIs v T ∧ wpAny (model X.prog X.w) X.A (getItem v (.ref sl)) (EP X pins σ Q) X.xe s := fun h1 h2 => by
    cases e : seqL S w with
    | none => rw [h2 e] at o; exact o.elim
    | some ws =>
      rw [h1 ws e] at o
      obtain ⟨a, vs, rfl, hl, hr⟩ := seqL_of rep r e
      exact sl_list pins s σ H _ v vl vu lo hi sl Q I rx hs pl pu ⟨a, vs, rfl, hl, fun p hp => out_lst o rep hp (hr.cut lo hi)⟩
  cases w with
  | str z =>
    have o : Out X.K X.mg (RW X.K X.mg) E ρ H (if z.length ≤ lim then Res.ok (W.str (cutS z lo hi)) S else Res.bad) Q := o
    split at o
    · rename_i hz
      cases r
      exact sl_str pins s σ H _ v vl vu lo hi sl Q I rx hs pl pu ⟨z, rfl, lim_line hz, Out.here o rep (.str _)⟩
    · exact o.elim
  | tup ws =>
    cases r with
    | tup hf hr =>
      have o : Out X.K X.mg (RW X.K X.mg) E ρ H (Res.ok (W.tup (cutW ws lo hi)) S) Q := o
      refine sl_tupA pins s σ H _ v vl vu lo hi sl Q I rx hs pl pu ⟨_, _, rfl, sqT_of hf, fun h => ?_, fun _ p hp => out_tup o rep hp (hr.cut lo hi)⟩
      rw [← hr.length] at h
      rw [cutW_whole h] at o
      exact Out.here o rep (.tup hf hr)
  | lst ws => exact lists (fun ws e => by simp only [gSl, e]) (fun e => by simp only [gSl, e])
  | flst ws => exact lists (fun ws e => by simp only [gSl, e]) (fun e => by simp only [gSl, e])
  | ref l => exact lists (fun ws e => by simp only [gSl, e]) (fun e => by simp only [gSl, e])
  | _ => exact o.elim
def mSl (ma : SM W) (ml mh : SM (Option Int)) : SM W := fun s S => (ma s S).bind fun w S1 => (ml s S1).bind fun lo S2 => (mh s S2).bind fun hi S3 => gSl w lo hi S3
theorem pm_slice {lo hi : Option Expr} {ml mh : SM (Option Int)} (ha : PM X E a ma) (hl : POM X E lo ml) (hh : POM X E hi mh) : PM X E (.Subscript a (.Slice lo hi none p2) pos) (mSl ma ml mh) :=
  pe_imp (pe_slice sl_all ha hl hh) fun σ H Q h => tX.bind h fun ρ1 H1 w x s S1 rep env r o => ⟨ρ1, s, S1, rep, env, Out.bind o fun ρ2 H2 l l' S2 e2 rep2 r2 o2 => ⟨ρ2, s, S2, rep2, env.ext e2, Out.bind o2 fun ρ3 H3 k k' S3 e3 rep3 r3 o3 => by
    cases r2; cases r3
    exact ⟨ρ3, S3, w, rep3, (r.ext e2).ext e3, o3⟩⟩⟩

/-! ### argument lists, displays -/
variable {es : List Expr} {mr : SM (List W)}
def mNil : SM (List W) := fun _ S => .ok [] S
def mCons (m : SM W) (mr : SM (List W)) : SM (List W) := fun s S => (m s S).bind fun w S1 => (mr s S1).bind fun ws S2 => .ok (w :: ws) S2
theorem pam_nil : PAM X E [] mNil := pa_imp pa_nil fun σ H Q ⟨ρ, s, S, rep, env, o⟩ => Out.here o rep .nil
theorem pam_cons (ha : PM X E a ma) (hr : PAM X E es mr) (hs : starEach (a :: es) X.env = (false, eval a X.env) :: starEach es X.env := by rfl) : PAM X E (a :: es) (mCons ma mr) :=
  pa_imp (pa_cons ha hr hs) fun σ H Q h => tX.bind h fun ρ1 H1 w x s S1 rep env r o => ⟨ρ1, s, S1, rep, env, Out.bind o fun ρ2 H2 ws xs S2 e2 rep2 r2 o2 => Out.here o2 rep2 (.cons (r.ext e2) r2)⟩
def gTup (ws : List W) (S : Store) : Res W := if ws.length ≤ lim then .ok (.tup ws) S else .bad
def gLst (ws : List W) (S : Store) : Res W := if ws.length ≤ lim then .ok (.lst ws) S else .bad
/-- a list that will be changed: an object of the store -/
def gLstR (ws : List W) (S : Store) : Res W := if ws.length ≤ lim then .ok (.ref S.length) (S ++ [.lst ws]) else .bad
def mAp (g : List W → Store → Res W) (mr : SM (List W)) : SM W := fun s S => (mr s S).bind g
theorem pm_tup {k : Nat} (h : PAM X E es mr) : PM X E (.Tuple es k pos) (mAp gTup mr) := pe_imp (pe_tup h) fun σ H Q q => tX.bind q fun ρ1 H1 ws xs s S1 rep env r o => by
  unfold gTup at o
  split at o
  · rename_i hz; exact ⟨by rw [← r.length]; exact lim_line hz, fun p hp => out_tup o rep hp r⟩
  · exact o.elim
theorem pm_lst (h : PAM X E es mr) : PM X E (.List es pos) (mAp gLst mr) := pe_imp (pe_lst h) fun σ H Q q => tX.bind q fun ρ1 H1 ws xs s S1 rep env r o => by
  unfold gLst at o
  split at o
  · rename_i hz; exact ⟨by rw [← r.length]; exact lim_line hz, fun p hp => out_lst o rep hp r⟩
  · exact o.elim
theorem out_new {K : PySem.W.Frag} {mg : Str → Option Value} {ρ : RT} {H : Hp} {S : Store} {E : XK} {Q : VK} {u : Ob} {p : Addr} {o' : HO} (o : Out K mg (RW K mg) E ρ H (.ok (.ref S.length) (S ++ [u])) Q) (rep : RepS K mg ρ H S) (hp : H p = none)
    (mk : Ext ρ H (ρ.snoc p) (upd H p o') → RO K mg (ρ.snoc p) (upd H p o') p u) : Q (.ref p) (upd H p o') := by
  have e := ext_push rep hp o'
  obtain ⟨e', rep'⟩ := rep.push hp (mk e)
  refine o _ _ _ e' rep' (.ref ?_)
  show (ρ.r ++ [p])[S.length]? = some p
  rw [← rep.len, List.getElem?_append_right (Nat.le_refl _), Nat.sub_self] <;> rfl
theorem pm_lstR (h : PAM X E es mr) : PM X E (.List es pos) (mAp gLstR mr) := pe_imp (pe_lst h) fun σ H Q q => tX.bind q fun ρ1 H1 ws xs s S1 rep env r o => by
  unfold gLstR at o
  split at o
  · rename_i hz; exact ⟨by rw [← r.length]; exact lim_line hz, fun p hp => out_new o rep hp fun e => .lst upd_same (r.ext e)⟩
  · exact o.elim

/-! ### calls of built-ins -/
def CallM (X : Cx) (E : XK) (f : Value) (g : List W → Store → Res W) : Prop := CallR X f (fun vs H Q => ∃ ρ S ws, RepS X.K X.mg ρ H S ∧ RWs X.K X.mg ρ H ws vs ∧ Out X.K X.mg (RW X.K X.mg) E ρ H (g ws S) Q)
theorem call_of {g : List W → Store → Res W} {σ : L2.St} {H : Hp} {Q : VK} (h : tE X E (mAp g mr) σ H Q) : tCB (fun vs H Q => ∃ ρ S ws, RepS X.K X.mg ρ H S ∧ RWs X.K X.mg ρ H ws vs ∧ Out X.K X.mg (RW X.K X.mg) E ρ H (g ws S) Q) (tA X E mr) σ H Q :=
  tX.bind h fun ρ1 H1 ws xs s S1 rep env r o => ⟨ρ1, S1, ws, rep, r, o⟩
theorem pm_callB {x : Str} {id : String} {p : Pos} {g : List W → Store → Res W} (hc : CallM X E (.builtin id) g) (hm : X.mg x = none) (ha : PAM X E (a :: es) mr) (hv : bootBuiltins x = some (.builtin id) := by decide +kernel) (hg : Gl X x := by rfl) (hn : x ≠ "__name__" := by decide +kernel) (hdb : (x == ("__debug__" : Str)) = false := by decide +kernel)
    (he : starEach (a :: es) X.env = (false, eval a X.env) :: starEach es X.env := by rfl) (hpl : (backTo pos (starEach es X.env)).any (·.1) = false := by rfl) : PM X E (.Call (.Name x p) (a :: es) [] pos) (mAp g mr) := pe_imp (pe_callB hc hg hm hv ha hn hdb he hpl) fun _ _ _ h => call_of h
theorem pm_callTy {x : Str} {T : String} {p : Pos} {g : List W → Store → Res W} (hc : CallM X E (.type T) g) (hm : X.mg x = none) (ha : PAM X E (a :: es) mr) (hv : bootBuiltins x = some (.type T) := by decide +kernel) (hg : Gl X x := by rfl) (hn : x ≠ "__name__" := by decide +kernel) (hdb : (x == ("__debug__" : Str)) = false := by decide +kernel)
    (he : starEach (a :: es) X.env = (false, eval a X.env) :: starEach es X.env := by rfl) (hpl : (backTo pos (starEach es X.env)).any (·.1) = false := by rfl) : PM X E (.Call (.Name x p) (a :: es) [] pos) (mAp g mr) := pe_imp (pe_callTy hc hg hm hv ha hn hdb he hpl) fun _ _ _ h => call_of h
def g1 (g : W → Store → Res W) (ws : List W) (S : Store) : Res W := match ws with
  | [w] => g w S
  | _ => .bad
theorem cm1 {f : Value} {g : W → Store → Res W} (h : ∀ (pins : List (Addr × Obj)) (s : Shared) (σ : L2.St) (H : Hp) (x : V) (us : List Value) (Q : VK) (ρ : RT) (S : Store) (w : W), Inv X pins σ H s → Vals [x] us → RepS X.K X.mg ρ H S → RW X.K X.mg ρ H w x → Out X.K X.mg (RW X.K X.mg) E ρ H (g w S) Q →
    wpAny (model X.prog X.w) X.A (call f us) (EP X pins σ Q) X.xe s) : CallM X E f (g1 g) := by
  intro pins s σ H xs us Q I r ⟨ρ, S, ws, rep, rs, o⟩
  match ws, rs, o with
  | [], _, o => exact o.elim
  | _ :: _ :: _, _, o => exact o.elim
  | [w], rs, o =>
    obtain ⟨x, rfl, rw⟩ := rs.one
    exact h pins s σ H x us Q ρ S w I r rep rw o
/-- len -/
def gLen (w : W) (S : Store) : Res W := match w with
  | .str x => if x.length ≤ lim then .ok (.int x.length) S else .bad
  | .tup ws => .ok (.int ws.length) S
  | w => match seqL S w with
    | some ws => .ok (.int ws.length) S
    | none => .bad
theorem cm_len : CallM X E (.builtin "len") (g1 gLen) := cm1 fun pins s σ H x us Q ρ S w I r rep rw o => by
  have lists : (∀ ws, seqL S w = some ws → gLen w S = .ok (.int ws.length) S) → (seqL S w = none → gLen w S = .bad) → wpAny (model X.prog X.w) X.A (call (.builtin "len") us) (EP X pins σ Q) X.xe s := fun h1 h2 => by
    cases e : seqL S w with
    | none => rw [h2 e] at o; exact o.elim
    | some ws =>
      rw [h1 ws e] at o
      obtain ⟨a, vs, rfl, hl, hr⟩ := seqL_of rep rw e
      rw [hr.length] at o
      exact call_len_seq pins s σ H _ us Q I r ⟨a, vs, rfl, .inl hl, Out.here o rep (.int _)⟩
  cases w with
  | str z =>
    have o : Out X.K X.mg (RW X.K X.mg) E ρ H (if z.length ≤ lim then Res.ok (W.int z.length) S else Res.bad) Q := o
    split at o
    · rename_i hz
      cases rw
      exact call_len_str pins s σ H _ us Q I r ⟨z, rfl, lim_line hz, Out.here o rep (.int _)⟩
    · exact o.elim
  | tup ws =>
    cases rw with
    | tup hf hr =>
      have o : Out X.K X.mg (RW X.K X.mg) E ρ H (Res.ok (W.int ws.length) S) Q := o
      rw [hr.length] at o
      exact call_len_seq pins s σ H _ us Q I r ⟨_, _, rfl, .inr (sqT_of hf), Out.here o rep (.int _)⟩
  | lst ws => exact lists (fun ws e => by simp only [gLen, e]) (fun e => by simp only [gLen, e])
  | flst ws => exact lists (fun ws e => by simp only [gLen, e]) (fun e => by simp only [gLen, e])
  | ref l => exact lists (fun ws e => by simp only [gLen, e]) (fun e => by simp only [gLen, e])
  | _ => exact o.elim
/-- int(n), int(flag) -/
def gInt (w : W) (S : Store) : Res W := match w with
  | .int i => .ok (.int i) S
  | .bl b => .ok (.int (if b then 1 else 0)) S
  | _ => .bad
theorem cm_int : CallM X E (.type "int") (g1 gInt) := cm1 fun pins s σ H x us Q ρ S w I r rep rw o => by
  cases w with
  | int i => cases rw; exact call_int1 pins s σ H _ us Q I r (.inl ⟨i, rfl, Out.here (w := W.int _) o rep (.int _)⟩)
  | bl b => cases rw; exact call_int1 pins s σ H _ us Q I r (.inr ⟨b, rfl, Out.here (w := W.int _) o rep (.int _)⟩)
  | _ => exact o.elim
/-- list(x), tuple(x) of a list or tuple -/
def seqA (S : Store) (w : W) : Option (List W) := (tupL w).or (seqL S w)
theorem seqA_of {K : PySem.W.Frag} {mg : Str → Option Value} {ρ : RT} {H : Hp} {S : Store} {w : W} {x : V} {ws : List W} (rep : RepS K mg ρ H S) (r : RW K mg ρ H w x) (h : seqA S w = some ws) : ∃ a vs, x = .ref a ∧ (SqL K H a vs ∨ SqT K H a vs) ∧ RWs K mg ρ H ws vs ∧ (w ≠ .tup ws → SqL K H a vs) ∧ (w = .tup ws → SqT K H a vs) := by
  cases w with
  | tup us =>
    cases (Option.some.inj h : us = ws)
    cases r with | tup hf hr => exact ⟨_, _, rfl, .inr (sqT_of hf), hr, fun n => absurd rfl n, fun _ => sqT_of hf⟩
  | _ => obtain ⟨a, vs, rfl, hs, hr⟩ := seqL_of rep r (by simpa [seqA, tupL] using h); exact ⟨a, vs, rfl, .inl hs, hr, fun _ => hs, fun z => by cases z⟩
def gListOf (w : W) (S : Store) : Res W := match seqA S w with
  | some ws => .ok (.lst ws) S
  | none => .bad
theorem cm_list : CallM X E (.type "list") (g1 gListOf) := cm1 fun pins s σ H x us Q ρ S w I r rep rw o => by
  unfold gListOf at o
  cases e : seqA S w with
  | none => rw [e] at o; exact o.elim
  | some ws =>
    rw [e] at o
    obtain ⟨a, vs, rfl, hl, hr, _⟩ := seqA_of rep rw e
    exact call_list_of pins s σ H _ us Q I r ⟨a, vs, rfl, hl, fun p hp => out_lst o rep hp hr⟩
/-- list(x) that will be changed -/
def gListOfR (w : W) (S : Store) : Res W := match seqA S w with
  | some ws => .ok (.ref S.length) (S ++ [.lst ws])
  | none => .bad
theorem cm_listR : CallM X E (.type "list") (g1 gListOfR) := cm1 fun pins s σ H x us Q ρ S w I r rep rw o => by
  unfold gListOfR at o
  cases e : seqA S w with
  | none => rw [e] at o; exact o.elim
  | some ws =>
    rw [e] at o
    obtain ⟨a, vs, rfl, hl, hr, _⟩ := seqA_of rep rw e
    exact call_list_of pins s σ H _ us Q I r ⟨a, vs, rfl, hl, fun p hp => out_new o rep hp fun e => .lst upd_same (hr.ext e)⟩
def gTupOf (w : W) (S : Store) : Res W := match seqA S w with
  | some ws => .ok (.tup ws) S
  | none => .bad
theorem cm_tuple : CallM X E (.type "tuple") (g1 gTupOf) := cm1 fun pins s σ H x us Q ρ S w I r rep rw o => by
  unfold gTupOf at o
  cases e : seqA S w with
  | none => rw [e] at o; exact o.elim
  | some ws =>
    rw [e] at o
    cases w with
    | tup us' =>
      cases (Option.some.inj e : us' = ws)
      cases rw with | tup hf hr => exact call_tuple_of pins s σ H _ us Q I r ⟨_, _, rfl, .inr ⟨sqT_of hf, Out.here o rep (.tup hf hr)⟩⟩
    | _ =>
      obtain ⟨a, vs, rfl, hs, hr⟩ := seqL_of rep rw (by simpa [seqA, tupL] using e)
      exact call_tuple_of pins s σ H _ us Q I r ⟨a, vs, rfl, .inl ⟨hs, fun p hp => out_tup o rep hp hr⟩⟩
/-- all(xs), any(xs), xs a list of bools -/
def blsW : List W → Option (List Bool)
  | [] => some []
  | .bl b :: r => (blsW r).map (b :: ·)
  | _ => none
theorem blsW_of {K : PySem.W.Frag} {mg : Str → Option Value} {ρ : RT} {H : Hp} : ∀ {ws : List W} {vs : List V} {bs : List Bool}, RWs K mg ρ H ws vs → blsW ws = some bs → vs = bs.map V.bl
  | _, _, _, .nil, h => by cases (Option.some.inj h : [] = _); rfl
  | _, _, _, .cons (w := w) (ws := ws) r t, h => by
    cases w with
    | bl b =>
      cases e : blsW ws with
      | none => simp [blsW, e] at h
      | some bs =>
        simp [blsW, e] at h
        subst h
        cases r
        rw [blsW_of t e]
        rfl
    | _ => cases h
def gAll (w : W) (S : Store) : Res W := match (seqL S w).bind blsW with
  | some bs => .ok (.bl (bs.all id)) S
  | none => .bad
def gAny (w : W) (S : Store) : Res W := match (seqL S w).bind blsW with
  | some bs => .ok (.bl (bs.any id)) S
  | none => .bad
theorem bls_at {K : PySem.W.Frag} {mg : Str → Option Value} {ρ : RT} {H : Hp} {S : Store} {w : W} {x : V} {bs : List Bool} (rep : RepS K mg ρ H S) (r : RW K mg ρ H w x) (h : (seqL S w).bind blsW = some bs) : ∃ a, x = .ref a ∧ SqL K H a (bs.map V.bl) := by
  cases e : seqL S w with
  | none => rw [e] at h; cases h
  | some ws =>
    rw [e] at h
    obtain ⟨a, vs, rfl, hl, hr⟩ := seqL_of rep r e
    rw [blsW_of hr h] at hl
    exact ⟨a, rfl, hl⟩
theorem cm_all (hc : X.calm = true) : CallM X E (.builtin "all") (g1 gAll) := cm1 fun pins s σ H x us Q ρ S w I r rep rw o => by
  unfold gAll at o
  cases e : (seqL S w).bind blsW with
  | none => rw [e] at o; exact o.elim
  | some bs =>
    rw [e] at o
    obtain ⟨a, rfl, hl⟩ := bls_at rep rw e
    exact cr_all hc pins s σ H _ us Q I r ⟨a, bs, rfl, hl, Out.here o rep (.bl _)⟩
theorem cm_any (hc : X.calm = true) : CallM X E (.builtin "any") (g1 gAny) := cm1 fun pins s σ H x us Q ρ S w I r rep rw o => by
  unfold gAny at o
  cases e : (seqL S w).bind blsW with
  | none => rw [e] at o; exact o.elim
  | some bs =>
    rw [e] at o
    obtain ⟨a, rfl, hl⟩ := bls_at rep rw e
    exact cr_any hc pins s σ H _ us Q I r ⟨a, bs, rfl, hl, Out.here o rep (.bl _)⟩
end

/-! ### isinstance -/
/-- the type of a value -/
def tyOf (S : Store) : W → Option W
  | .non => some (.ty "NoneType")
  | .bl _ => some (.ty "bool")
  | .int _ => some (.ty "int")
  | .str _ => some (.ty "str")
  | .tup _ => some (.ty "tuple")
  | .lst _ => some (.ty "list")
  | .flst _ => some (.ty "list")
  | .dic _ _ => some (.ty "dict")
  | .ins c _ _ => some (.gl c)
  | .ref l => match S[l]? with
    | some (.lst _) => some (.ty "list")
    | some (.dic _ _) => some (.ty "dict")
    | some (.ins c _ _) => some (.gl c)
    | none => none
  | _ => none
inductive TyVal (mg : Str → Option Value) : W → Value → Prop where
  | ty (n : String) : TyVal mg (.ty n) (.type n)
  | gl {x : Str} {a : Addr} (h : mg x = some (.ref a)) : TyVal mg (.gl x) (.ref a)
/-- whether a value of the type t is one of c; the answers that are known -/
abbrev KT := W → W → Option Bool
structure KtOk (K : PySem.W.Frag) (mg : Str → Option Value) (kt : KT) : Prop where
  one : ∀ t c b tv cv, kt t c = some b → TyVal mg t tv → TyVal mg c cv → PySem.W.kitOne K tv cv = some b
  ins : ∀ c C, mg c = some (.ref C) → (∃ d b, kt (.gl c) d = some b) → Cls K C ∧ PySem.W.findIn K (.ref C) "__class__" = some (some (.builtin "object.__class__")) ∧
    PySem.W.specialIn K (.builtin "object.__class__") "__get__" = some (some (.builtin "getset_descriptor.__get__")) ∧ PySem.W.takesIn K (.builtin "object.__class__") = some true ∧ PySem.W.mroIn K C (.type "object") = some true
def ktAny (kt : KT) (t : W) : List W → Option Bool
  | [] => some false
  | c :: cs => match kt t c with
    | some true => some true
    | some false => ktAny kt t cs
    | none => none
/-- the built-in types among one another -/
def ktB : KT
  | .ty a, .ty b => if a ∈ ["NoneType", "bool", "int", "str", "tuple", "list", "dict"] ∧ b ∈ ["bool", "int", "str", "tuple", "list", "dict"] then some (a == b || (a == "bool" && b == "int")) else none
  | _, _ => none
theorem kitB_all : ∀ a ∈ ["NoneType", "bool", "int", "str", "tuple", "list", "dict"], ∀ b ∈ ["bool", "int", "str", "tuple", "list", "dict"], kitB a b = some (a == b || (a == "bool" && b == "int")) := by decide +kernel
theorem ktB_ok {K : PySem.W.Frag} {mg : Str → Option Value} : KtOk K mg ktB where
  one := fun t c b tv cv h ht hc => by
    cases ht with
    | ty n =>
      cases hc with
      | ty m =>
        unfold ktB at h
        dsimp only at h
        split at h
        · rename_i hz
          cases (Option.some.inj h)
          exact kit_ty (kitB_all n hz.1 m hz.2)
        · cases h
      | gl _ => cases h
    | gl _ => cases h
  ins := fun c C _ ⟨d, b, h⟩ => by cases h
def isCls : W → Bool
  | .ty _ | .gl _ => true
  | _ => false
def gIsi1 (kt : KT) (w c : W) (S : Store) : Res W := match tyOf S w with
  | none => .bad
  | some t => if isCls c = true then (match kt t c with
      | some b => .ok (.bl b) S
      | none => .bad) else match tupL c with
    | some (d :: ds) => if (d :: ds).all isCls = true then (match kt t d, ktAny kt t (d :: ds) with
      | some _, some b => .ok (.bl b) S
      | _, _ => .bad) else .bad
    | _ => .bad
def gIsi (kt : KT) (ws : List W) (S : Store) : Res W := match ws with
  | [w, c] => gIsi1 kt w c S
  | _ => .bad
section
variable {K : PySem.W.Frag} {mg : Str → Option Value} {ρ : RT} {H : Hp} {S : Store}
theorem tyOf_of {kt : KT} (T : KtOk K mg kt) {w : W} {x : V} {t d : W} {b : Bool} (rep : RepS K mg ρ H S) (r : RW K mg ρ H w x) (h : tyOf S w = some t) (hk : kt t d = some b) : ∃ tv, TyVal mg t tv ∧ TyX K H x tv := by
  cases w with
  | non => cases r; cases h; exact ⟨_, .ty _, .base .non⟩
  | bl b => cases r; cases h; exact ⟨_, .ty _, .base (.bl _)⟩
  | int b => cases r; cases h; exact ⟨_, .ty _, .base (.int _)⟩
  | str b => cases r; cases h; exact ⟨_, .ty _, .base (.str _)⟩
  | tup ws =>
    cases h
    cases r with
    | tup hf hr =>
      rcases hf with hf | ⟨o, its, n, h1, h2, _⟩
      · exact ⟨_, .ty _, .base (.tup hf.1)⟩
      · exact ⟨_, .ty _, .kTuple h1 h2⟩
  | lst ws => cases h; cases r with | lst hf hr => exact ⟨_, .ty _, .base (.lst hf.1)⟩
  | flst ws =>
    cases h
    cases r with
    | flst hf hr =>
      rcases hf with ⟨o, hf⟩ | ⟨o, its, n, h1, h2, _⟩
      · exact ⟨_, .ty _, .base (.frz hf.1)⟩
      · exact ⟨_, .ty _, .kList h1 h2⟩
  | dic ks ws => cases h; cases r with | dic hf hl hr => exact ⟨_, .ty _, .base (.dK hf.1)⟩
  | ins c ns ws =>
    cases h
    cases r with
    | ins hc hf hl hr =>
      obtain ⟨h1, h2, h3, h4, h5⟩ := T.ins _ _ hc ⟨_, _, hk⟩
      exact ⟨_, .gl hc, .base (.ins hf.1 h1 h2 h3 h4 h5)⟩
  | ref l =>
    cases r with
    | ref hl =>
      cases e : S[l]? with
      | none => simp [tyOf, e] at h
      | some ob =>
        obtain ⟨a, h1, h2⟩ := rep.ob l _ e
        rw [hl] at h1; cases h1
        cases h2 with
        | lst h3 h4 => simp [tyOf, e] at h; subst h; exact ⟨_, .ty _, .base (.lst h3)⟩
        | dic h3 h4 h5 => simp [tyOf, e] at h; subst h; exact ⟨_, .ty _, .base (.dK h3)⟩
        | ins hc h3 h4 h5 =>
          simp [tyOf, e] at h; subst h
          obtain ⟨g1, g2, g3, g4, g5⟩ := T.ins _ _ hc ⟨_, _, hk⟩
          exact ⟨_, .gl hc, .base (.ins h3 g1 g2 g3 g4 g5)⟩
  | _ => cases h
theorem clsV_of {c : W} {x : V} (r : RW K mg ρ H c x) {kt : KT} {t : W} {b : Bool} (T : KtOk K mg kt) (hc : (∃ n, c = .ty n) ∨ ∃ n, c = .gl n) : ∃ cv, TyVal mg c cv ∧ ClsV x cv := by
  rcases hc with ⟨n, rfl⟩ | ⟨n, rfl⟩
  · cases r; exact ⟨_, .ty n, .ty n⟩
  · cases r with | gl h => exact ⟨_, .gl h, .own _⟩
theorem ktAny_of {kt : KT} (T : KtOk K mg kt) {t : W} {tv : Value} (ht : TyVal mg t tv) : ∀ {cs : List W} {xs : List V} {b : Bool}, RWs K mg ρ H cs xs → (∀ c ∈ cs, (∃ n, c = .ty n) ∨ ∃ n, c = .gl n) → ktAny kt t cs = some b → ∃ cvs, Paired ClsV xs cvs ∧ PySem.W.kitAny K tv cvs = some b
  | _, _, b, .nil, _, h => by cases (Option.some.inj h : false = b); exact ⟨[], .nil, kitAny_nil⟩
  | _, _, b, .cons (w := c) (ws := cs) (vs := vs') r rs, hk, h => by
    obtain ⟨cv, h1, h2⟩ := clsV_of (kt := kt) (t := t) (b := b) r T (hk c List.mem_cons_self)
    unfold ktAny at h
    cases e : kt t c with
    | none => rw [e] at h; cases h
    | some k =>
      have hone := T.one t c k tv cv e ht h1
      have rest : ∃ cvs, Paired ClsV vs' cvs ∧ (k = false → PySem.W.kitAny K tv cvs = some b) := by
        cases k with
        | false =>
          rw [e] at h
          obtain ⟨cvs, p1, p2⟩ := ktAny_of T ht rs (fun c hc => hk c (List.mem_cons_of_mem _ hc)) h
          exact ⟨cvs, p1, fun _ => p2⟩
        | true =>
          have : ∀ {cs : List W} {xs : List V}, RWs K mg ρ H cs xs → (∀ c ∈ cs, (∃ n, c = .ty n) ∨ ∃ n, c = .gl n) → ∃ cvs, Paired ClsV xs cvs := by
            intro cs xs r hk
            induction cs generalizing xs with
            | nil => cases r; exact ⟨[], .nil⟩
            | cons c cs ih =>
              cases r with
              | cons r1 r2 =>
                obtain ⟨cv, _, z⟩ := clsV_of (kt := kt) (t := t) (b := b) r1 T (hk c List.mem_cons_self)
                obtain ⟨cvs, zs⟩ := ih r2 fun c hc => hk c (List.mem_cons_of_mem _ hc)
                exact ⟨cv :: cvs, .cons z zs⟩
          obtain ⟨cvs, p1⟩ := this rs fun c hc => hk c (List.mem_cons_of_mem _ hc)
          exact ⟨cvs, p1, fun z => by cases z⟩
      obtain ⟨cvs, p1, p2⟩ := rest
      refine ⟨cv :: cvs, .cons h2 p1, kitAny_cons hone p2 fun z => ?_⟩
      subst z
      rw [e] at h
      exact (Option.some.inj h).symm
end
theorem isCls_of {c : W} (h : isCls c = true) : (∃ n, c = .ty n) ∨ ∃ n, c = .gl n := by
  cases c with
  | ty n => exact .inl ⟨n, rfl⟩
  | gl n => exact .inr ⟨n, rfl⟩
  | _ => cases h
section
variable {X : Cx} {E : XK}
/-- the classes are built-in types or classes of the module -/
theorem cm_isi {kt : KT} (T : KtOk X.K X.mg kt) : CallM X E (.builtin "isinstance") (gIsi kt) := by
  intro pins s σ H xs us Q I r ⟨ρ, S, ws, rep, rs, o⟩
  match ws, rs, o with
  | [], _, o => exact o.elim
  | [_], _, o => exact o.elim
  | _ :: _ :: _ :: _, _, o => exact o.elim
  | [w, c], rs, o =>
    obtain ⟨x, y, rfl, r1, r2⟩ := rs.two
    have o : Out X.K X.mg (RW X.K X.mg) E ρ H (gIsi1 kt w c S) Q := o
    unfold gIsi1 at o
    cases e1 : tyOf S w with
    | none => rw [e1] at o; exact o.elim
    | some t =>
      rw [e1] at o
      dsimp only at o
      split at o
      · rename_i hc
        cases e3 : kt t c with
        | none => rw [e3] at o; exact o.elim
        | some b =>
          rw [e3] at o
          obtain ⟨tv, h1, h2⟩ := tyOf_of T rep r1 e1 e3
          obtain ⟨cv, h3, h4⟩ := clsV_of (kt := kt) (t := t) (b := b) r2 T (isCls_of hc)
          exact call_isi pins s σ H _ us Q I r ⟨x, y, tv, cv, b, rfl, h4, h2, T.one t c b tv cv e3 h1 h3, Out.here o rep (.bl _)⟩
      · cases c with
        | tup cs =>
          cases cs with
          | nil => exact o.elim
          | cons d ds =>
            have o : Out X.K X.mg (RW X.K X.mg) E ρ H (if (d :: ds).all isCls = true then (match kt t d, ktAny kt t (d :: ds) with
              | some _, some b => .ok (.bl b) S
              | _, _ => .bad) else .bad) Q := o
            split at o
            · rename_i hall
              cases e2 : kt t d with
              | none => rw [e2] at o; exact o.elim
              | some k =>
                cases e3 : ktAny kt t (d :: ds) with
                | none => rw [e2, e3] at o; exact o.elim
                | some b =>
                  rw [e2, e3] at o
                  obtain ⟨tv, h1, h2⟩ := tyOf_of T rep r1 e1 e2
                  cases r2 with
                  | tup hf hr =>
                    obtain ⟨cvs, h3, h4⟩ := ktAny_of T h1 hr (fun c hc => isCls_of (List.all_eq_true.mp hall c hc)) e3
                    rcases hf with hf | ⟨ob, its, n, g1, g2, g3, g4, g5⟩
                    · exact call_isiT pins s σ H _ us Q I r ⟨x, _, _, tv, cvs, b, rfl, hf.1, h3, h2, h4, Out.here o rep (.bl _)⟩
                    · have ee : its.toList = cvs := ClsV.all h3 g5
                      subst ee
                      obtain ⟨oc, od, dt, sl⟩ := ob
                      simp only at g2 g3
                      subst g2 g3
                      exact call_isiK pins s σ H _ us Q I r ⟨x, _, od, its.toList, n, sl, tv, b, rfl, by simpa using g1, h2, h4, Out.here o rep (.bl _)⟩
            · exact o.elim
        | _ => exact o.elim
end
end RL
end

section
set_option maxRecDepth 100000
set_option maxHeartbeats 2000000
namespace RL
open PySem PySem.Spec L2
open PyProof.Rows hiding St

/-! ### statements -/
inductive Fl where
  | nx | rt (w : W) | bk | ct
abbrev SS := SM (Fl × Env')
section
variable (K : PySem.W.Frag) (mg : Str → Option Value)
def OutS (E : XK) (ρ : RT) (H : Hp) (r : Res (Fl × Env')) (D : Ends) : Prop := match r with
  | .ok (f, s') S' => match f with
    | .nx => ∀ ρ' H' σ', Ext ρ H ρ' H' → RepS K mg ρ' H' S' → REnv K mg ρ' H' s' σ' → D.nx σ' H'
    | .rt w => ∀ ρ' H' v, Ext ρ H ρ' H' → RepS K mg ρ' H' S' → RW K mg ρ' H' w v → D.rt v H'
    | .bk => ∀ ρ' H' σ', Ext ρ H ρ' H' → RepS K mg ρ' H' S' → REnv K mg ρ' H' s' σ' → D.bk σ' H'
    | .ct => ∀ ρ' H' σ', Ext ρ H ρ' H' → RepS K mg ρ' H' S' → REnv K mg ρ' H' s' σ' → D.ct σ' H'
  | .exc c ns ws S => ExcOut K mg E ρ H c ns ws S
  | .bad => False
end
def tS (X : Cx) (E : XK) (m : SS) : TS := fun D σ H => ∃ ρ s S, RepS X.K X.mg ρ H S ∧ REnv X.K X.mg ρ H s σ ∧ OutS X.K X.mg E ρ H (m s S) D
def PSM (X : Cx) (E : XK) (st : Stmt) (m : SS) : Prop := PS X st (tS X E m)
def PSsM (X : Cx) (E : XK) (st : List Stmt) (m : SS) : Prop := PSs X st (tS X E m)
theorem ps_imp {X : Cx} {st : Stmt} {t t' : TS} (h : PS X st t) (f : ∀ D σ H, t' D σ H → t D σ H) : PS X st t' := ⟨fun pins s σ H D I q => h.run pins s σ H D I (f D σ H q)⟩
theorem pss_imp {X : Cx} {st : List Stmt} {t t' : TS} (h : PSs X st t) (f : ∀ D σ H, t' D σ H → t D σ H) : PSs X st t' := ⟨fun pins s σ H D I q => h.run pins s σ H D I (f D σ H q)⟩
section
variable {K : PySem.W.Frag} {mg : Str → Option Value} {ρ ρ' : RT} {H H' : Hp} {E : XK} {α β : Type}
theorem OutS.ext {r : Res (Fl × Env')} {D : Ends} (e : Ext ρ H ρ' H') (h : OutS K mg E ρ H r D) : OutS K mg E ρ' H' r D := by
  cases r with
  | ok p S =>
    obtain ⟨f, s'⟩ := p
    cases f with
    | nx => exact fun ρ2 H2 σ2 x => h ρ2 H2 σ2 (e.trans x)
    | rt w => exact fun ρ2 H2 σ2 x => h ρ2 H2 σ2 (e.trans x)
    | bk => exact fun ρ2 H2 σ2 x => h ρ2 H2 σ2 (e.trans x)
    | ct => exact fun ρ2 H2 σ2 x => h ρ2 H2 σ2 (e.trans x)
  | exc c ns ws S => exact ExcOut.ext e h
  | bad => exact h
/-- an expression's (target's) part ahead of the rest of a statement -/
theorem OutS.bind {R : Rl β α} {r : Res α} {k : α → Store → Res (Fl × Env')} {D : Ends} {Z : β → Hp → Prop} (h : OutS K mg E ρ H (r.bind k) D)
    (f : ∀ ρ1 H1 a b S1, Ext ρ H ρ1 H1 → RepS K mg ρ1 H1 S1 → R ρ1 H1 a b → OutS K mg E ρ1 H1 (k a S1) D → Z b H1) : Out K mg R E ρ H r Z := by
  cases r with
  | ok w S => exact fun ρ1 H1 v e rep rw => f ρ1 H1 w v S e rep rw (OutS.ext e h)
  | exc c ns ws S => exact h
  | bad => exact h
end
theorem tS.bind {X : Cx} {E : XK} {α β : Type} {R : Rl β α} {m : SM α} {k : α → SS} {D : Ends} {σ : L2.St} {H : Hp} {Z : β → Hp → Prop} (h : tS X E (fun s S => (m s S).bind fun a => k a s) D σ H)
    (f : ∀ ρ1 H1 a b s S1, RepS X.K X.mg ρ1 H1 S1 → REnv X.K X.mg ρ1 H1 s σ → R ρ1 H1 a b → OutS X.K X.mg E ρ1 H1 (k a s S1) D → Z b H1) : tX X.K X.mg R E m σ H Z := by
  obtain ⟨ρ, s, S, rep, env, o⟩ := h
  exact ⟨ρ, s, S, rep, env, OutS.bind o fun ρ1 H1 a b S1 e rep1 r o1 => f ρ1 H1 a b s S1 rep1 (env.ext e) r o1⟩
theorem OutS.nx {X : Cx} {E : XK} {ρ : RT} {H : Hp} {s : Env'} {S : Store} {D : Ends} {σ : L2.St} (o : OutS X.K X.mg E ρ H (.ok (.nx, s) S) D) (rep : RepS X.K X.mg ρ H S) (env : REnv X.K X.mg ρ H s σ) : D.nx σ H := o ρ H σ (Ext.refl _ _) rep env

def mSkip : SS := fun s S => .ok (.nx, s) S
def mSeq (m ms : SS) : SS := fun s S => (m s S).bind fun p S1 => match p with
  | (.nx, s1) => ms s1 S1
  | p => .ok p S1
section
variable {X : Cx} {E : XK} {pos : Pos} {st : Stmt} {sts : List Stmt} {m ms : SS} {a : Expr} {ma : SM W}
theorem psm_nil : PSsM X E [] mSkip := pss_imp pss_nil fun D σ H ⟨ρ, s, S, rep, env, o⟩ => OutS.nx o rep env
theorem psm_cons (h : PSM X E st m) (hs : PSsM X E sts ms) : PSsM X E (st :: sts) (mSeq m ms) := pss_imp (pss_cons h hs) fun D σ H ⟨ρ, s, S, rep, env, o⟩ => by
  refine ⟨ρ, s, S, rep, env, ?_⟩
  unfold mSeq at o
  cases e : m s S with
  | ok p S1 =>
    obtain ⟨f, s1⟩ := p
    rw [e] at o
    cases f with
    | nx => exact fun ρ1 H1 σ1 x rep1 env1 => ⟨ρ1, s1, S1, rep1, env1, OutS.ext x o⟩
    | rt w => exact o
    | bk => exact o
    | ct => exact o
  | exc c ns ws S1 => rw [e] at o; exact o
  | bad => rw [e] at o; exact o
theorem psm_one (h : PSM X E st m) : PSsM X E [st] m := pss_imp (pss_one h) fun D σ H q => q
theorem psm_pass : PSM X E (.Pass pos) mSkip := ps_imp ps_pass fun D σ H ⟨ρ, s, S, rep, env, o⟩ => OutS.nx o rep env
theorem psm_doc {x j p} : PSM X E (.Expr (.Constant (.str x) j p) pos) mSkip := ps_imp ps_doc fun D σ H ⟨ρ, s, S, rep, env, o⟩ => OutS.nx o rep env
theorem psm_break : PSM X E (.Break pos) (fun s S => .ok (.bk, s) S) := ps_imp ps_break fun D σ H ⟨ρ, s, S, rep, env, o⟩ => o ρ H σ (Ext.refl _ _) rep env
theorem psm_continue : PSM X E (.Continue pos) (fun s S => .ok (.ct, s) S) := ps_imp ps_continue fun D σ H ⟨ρ, s, S, rep, env, o⟩ => o ρ H σ (Ext.refl _ _) rep env
def mExpr (ma : SM W) : SS := fun s S => (ma s S).bind fun _ S1 => .ok (.nx, s) S1
theorem psm_expr (ha : PM X E a ma) (hs : swapsWith a none pos.line X.env = pure false := by rfl) : PSM X E (.Expr a pos) (mExpr ma) :=
  ps_imp (ps_expr ha hs) fun D σ H h => tS.bind h fun ρ1 H1 w x s S1 rep env r o => OutS.nx o rep env
def mRet (ma : SM W) : SS := fun s S => (ma s S).bind fun w S1 => .ok (.rt w, s) S1
theorem psm_ret (ha : PM X E a ma) : PSM X E (.Return (some a) pos) (mRet ma) := ps_imp (ps_ret ha) fun D σ H h => tS.bind h fun ρ1 H1 w x s S1 rep env r o => o ρ1 H1 x (Ext.refl _ _) rep r
theorem psm_retN : PSM X E (.Return none pos) (fun s S => .ok (.rt .non, s) S) := ps_imp ps_retN fun D σ H ⟨ρ, s, S, rep, env, o⟩ => o ρ H .non (Ext.refl _ _) rep .non
def mIf (nc : SM Bool) (m ms : SS) : SS := fun s S => (nc s S).bind fun b S1 => if b = true then m s S1 else ms s S1
theorem psm_if {c : Expr} {nc : SM Bool} {A B : List Stmt} (hc : PTM X E c nc) (ha : PSsM X E A m) (hb : PSsM X E B ms) : PSM X E (.If c A B pos) (mIf nc m ms) :=
  ps_imp (ps_if hc ha hb) fun D σ H h => tS.bind h fun ρ1 H1 k k' s S1 rep env r o => by
    cases r
    cases k with
    | true => rw [if_pos rfl] at o; rw [if_pos rfl]; exact ⟨ρ1, s, S1, rep, env, o⟩
    | false => rw [if_neg Bool.false_ne_true] at o; rw [if_neg Bool.false_ne_true]; exact ⟨ρ1, s, S1, rep, env, o⟩
end

theorem Out.conv {K : PySem.W.Frag} {mg : Str → Option Value} {α β : Type} {R R' : Rl β α} {E : XK} {ρ : RT} {H : Hp} {r : Res α} {Q : β → Hp → Prop} (h : Out K mg R E ρ H r Q) (f : ∀ ρ1 H1 a b, R' ρ1 H1 a b → R ρ1 H1 a b) : Out K mg R' E ρ H r Q := by
  cases r with
  | ok w S => exact fun ρ1 H1 v e rep rr => h ρ1 H1 v e rep (f _ _ _ _ rr)
  | exc c ns ws S => exact h
  | bad => exact h
/-! ### targets; vs: the slots that a target may change -/
abbrev GM := W → Env' → Store → Res Env'
def tG (X : Cx) (E : XK) (vs : List Nat) (g : GM) : TG := fun v σ H Q => ∃ ρ s S w, RepS X.K X.mg ρ H S ∧ REnv X.K X.mg ρ H s σ ∧ RW X.K X.mg ρ H w v ∧ Out X.K X.mg (fun ρ H s' σ' => REnv X.K X.mg ρ H s' σ' ∧ wipe σ' vs = wipe σ vs) E ρ H (g w s S) Q
def PGM (X : Cx) (E : XK) (tg : Expr) (vs : List Nat) (g : GM) : Prop := PG X tg (tG X E vs g)
abbrev GMs := List W → Env' → Store → Res Env'
def tGs (X : Cx) (E : XK) (vs : List Nat) (g : GMs) : TGs := fun v σ H Q => ∃ ρ s S w, RepS X.K X.mg ρ H S ∧ REnv X.K X.mg ρ H s σ ∧ RWs X.K X.mg ρ H w v ∧ Out X.K X.mg (fun ρ H s' σ' => REnv X.K X.mg ρ H s' σ' ∧ wipe σ' vs = wipe σ vs) E ρ H (g w s S) Q
def PGsM (X : Cx) (E : XK) (tg : List Expr) (vs : List Nat) (g : GMs) : Prop := PGs X tg (tGs X E vs g)
theorem pg_imp {X : Cx} {e : Expr} {t t' : TG} (h : PG X e t) (f : ∀ v σ H Q, t' v σ H Q → t v σ H Q) : PG X e t' := ⟨fun pins s σ H v u Q I r q => h.run pins s σ H v u Q I r (f v σ H Q q)⟩
theorem pgs_imp {X : Cx} {e : List Expr} {t t' : TGs} (h : PGs X e t) (f : ∀ v σ H Q, t' v σ H Q → t v σ H Q) : PGs X e t' := ⟨fun pins s σ H v u Q I r q => h.run pins s σ H v u Q I r (f v σ H Q q)⟩
theorem wipe_set {σ : L2.St} {i : Nat} {o : Option V} : ∀ {vs : List Nat}, i ∈ vs → wipe (σ.set i o) vs = wipe σ vs
  | v :: vs, h => by
    unfold wipe
    by_cases e : i = v
    · subst e
      by_cases hm : i ∈ vs
      · rw [wipe_set hm]
      · have : ∀ {vs : List Nat}, i ∉ vs → wipe (σ.set i o) vs = (wipe σ vs).set i o := by
          intro vs hn
          induction vs with
          | nil => rfl
          | cons k r ih =>
            unfold wipe
            rw [ih fun z => hn (List.mem_cons_of_mem _ z), List.set_comm _ _ (fun z => hn (by first | (rw [z]; exact List.mem_cons_self) | (rw [← z]; exact List.mem_cons_self)))]
        rw [this hm, List.set_set]
    · rw [wipe_set ((List.mem_cons.mp h).resolve_left e)]
def gNm (i : Nat) : GM := fun w s S => .ok (s.set i (some w)) S
section
variable {X : Cx} {E : XK} {pos : Pos} {a b o i : Expr} {ma mo mi : SM W} {vs : List Nat}
theorem pgm_name (i : Nat) {x : Str} (hN : X.N.Nodup) (hm : i ∈ vs := by simp) (hi : X.N[i]? = some x := by rfl) (hx : Loc X.env.scope x := by first | exact Or.inl rfl | exact Or.inr rfl) (hf : X.fn x = true ∨ X.env.scope.names.lookup x = some .local := by first | exact .inl rfl | exact .inr rfl) : PGM X E (.Name x pos) vs (gNm i) :=
  pg_imp (pg_name hN hi hx hf) fun v σ H Q ⟨ρ, s, S, w, rep, env, r, o⟩ => Out.here o rep ⟨env.set i r, wipe_set hm⟩
def gNil : GMs := fun ws s S => match ws with
  | [] => .ok s S
  | _ => .bad
def gCons (g : GM) (gs : GMs) : GMs := fun ws s S => match ws with
  | w :: r => (g w s S).bind fun s1 S1 => gs r s1 S1
  | [] => .bad
theorem pgm_nil : PGsM X E [] vs gNil := pgs_imp pgs_nil fun v σ H Q ⟨ρ, s, S, w, rep, env, r, o⟩ => by
  cases r with
  | nil => exact ⟨rfl, Out.here o rep ⟨env, rfl⟩⟩
  | cons _ _ => exact o.elim
theorem pgm_cons {e : Expr} {es : List Expr} {g : GM} {gs : GMs} (h1 : PGM X E e vs g) (h2 : PGsM X E es vs gs) (hs : (assignEach (e :: es) X.env).map (·.2) = assign e X.env :: (assignEach es X.env).map (·.2) := by rfl) : PGsM X E (e :: es) vs (gCons g gs) :=
  pgs_imp (pgs_cons h1 h2 hs) fun v σ H Q ⟨ρ, s, S, w, rep, env, r, o⟩ => by
    cases r with
    | nil => exact o.elim
    | cons r rs =>
      refine ⟨_, _, rfl, ρ, s, S, _, rep, env, r, Out.bind o fun ρ1 H1 s1 σ1 S1 e rep1 hh o1 => ⟨ρ1, s1, S1, _, rep1, hh.1, rs.ext e, ?_⟩⟩
      exact o1.conv fun ρ2 H2 s2 σ2 h2 => ⟨h2.1, h2.2.trans hh.2⟩
/-- a, b, .. = a tuple of that length -/
def gTp (n : Nat) (gs : GMs) : GM := fun w s S => match w with
  | .tup ws => if ws.length = n then gs ws s S else .bad
  | _ => .bad
theorem pgm_tup {es : List Expr} {k n : Nat} {gs : GMs} (hc : X.calm = true) (h : PGsM X E es vs gs) (hn : (assignEach es X.env).length = n := by rfl) (hst : (assignEach es X.env).findIdx? (·.1) = none := by rfl) : PGM X E (.Tuple es k pos) vs (gTp n gs) :=
  pg_imp (pg_tup hc h hn hst) fun v σ H Q ⟨ρ, s, S, w, rep, env, r, o⟩ => by
    cases w with
    | tup ws =>
      cases r with
      | tup hf hr =>
        have o : Out X.K X.mg (fun ρ H s' σ' => REnv X.K X.mg ρ H s' σ' ∧ wipe σ' vs = wipe σ vs) E ρ H (if ws.length = n then gs ws s S else .bad) Q := o
        split at o
        · rename_i hz; exact ⟨_, _, rfl, sqT_of hf, by rw [← hr.length]; exact hz, ρ, s, S, ws, rep, env, hr, o⟩
        · exact o.elim
    | _ => exact o.elim
/-- a, b, .. = a list of that length -/
def gLs (n : Nat) (gs : GMs) : GM := fun w s S => match seqL S w with
  | some ws => if ws.length = n then gs ws s S else .bad
  | _ => .bad
theorem pgm_lst {es : List Expr} {k n : Nat} {gs : GMs} (hc : X.calm = true) (h : PGsM X E es vs gs) (hn : (assignEach es X.env).length = n := by rfl) (hst : (assignEach es X.env).findIdx? (·.1) = none := by rfl) : PGM X E (.Tuple es k pos) vs (gLs n gs) :=
  pg_imp (pg_lst hc h hn hst) fun v σ H Q ⟨ρ, s, S, w, rep, env, r, o⟩ => by
    unfold gLs at o
    cases e : seqL S w with
    | none => rw [e] at o; exact o.elim
    | some ws =>
      rw [e] at o
      obtain ⟨a, vs', rfl, hl, hr⟩ := seqL_of rep r e
      dsimp only at o
      split at o
      · rename_i hz; exact ⟨_, _, rfl, hl, by rw [← hr.length]; exact hz, ρ, s, S, ws, rep, env, hr, o⟩
      · exact o.elim
def mAsg (ma : SM W) (g : GM) : SS := fun s S => (ma s S).bind fun w S1 => (g w s S1).bind fun s' S2 => .ok (.nx, s') S2
theorem asg_of {g : GM} {D : Ends} {σ : L2.St} {H : Hp} (h : tS X E (mAsg ma g) D σ H) : tAsg (tE X E ma) (tG X E vs g) D σ H :=
  tS.bind h fun ρ1 H1 w x s S1 rep env r o => ⟨ρ1, s, S1, w, rep, env, r, OutS.bind o fun ρ2 H2 s' σ' S2 e rep2 hh o2 => OutS.nx o2 rep2 hh.1⟩
theorem psm_asg {tg : Expr} {g : GM} (ha : PM X E a ma) (hg : PGM X E tg vs g) (hs : swapsWithSole [tg] a pos.line X.env = pure false := by rfl) (hw : swappedStores [tg] a X.env = pure none := by rfl) (h1 : (assignEach [tg] X.env).map (·.2) = [assign tg X.env] := by rfl) : PSM X E (.Assign [tg] a pos) (mAsg ma g) :=
  ps_imp (ps_asg ha hg hs hw (h1 := h1)) fun D σ H h => asg_of h
/-- x = e -/
theorem psm_set (i : Nat) {x : Str} {p : Pos} (ha : PM X E a ma) (hN : X.N.Nodup) (hi : X.N[i]? = some x := by rfl) (hx : Loc X.env.scope x := by first | exact Or.inl rfl | exact Or.inr rfl) (hs : swapsWith a (some (.Name x p)) pos.line X.env = pure false := by rfl)
    (hf : X.fn x = true ∨ X.env.scope.names.lookup x = some .local := by first | exact .inl rfl | exact .inr rfl) : PSM X E (.Assign [.Name x p] a pos) (mAsg ma (gNm i)) :=
  ps_imp (ps_set hN hi hx ha hs hf) fun D σ H h => tS.bind h fun ρ1 H1 w x s S1 rep env r o => OutS.nx (s := s.set i (some w)) o rep (env.set i r)
/-- a, b = x, y (plain local names) -/
def mPar (i j : Nat) (mr : SM (List W)) : SS := fun s S => (mr s S).bind fun ws S1 => match ws with
  | [v, w] => .ok (.nx, (s.set i (some v)).set j (some w)) S1
  | _ => .bad
theorem psm_par (i j : Nat) {x y : Str} {mr : SM (List W)} {px py pt : Pos} {kt k2 pt2} (hc : X.calm = true) (hN : X.N.Nodup) (ha : PAM X E [a, b] mr) (hi : X.N[i]? = some x := by rfl) (hj : X.N[j]? = some y := by rfl) (hij : i ≠ j := by decide)
    (hx : X.env.scope.names.lookup x = some .local := by rfl) (hy : X.env.scope.names.lookup y = some .local := by rfl)
    (hw : swappedStores [.Tuple [.Name x px, .Name y py] kt pt] (.Tuple [a, b] k2 pt2) X.env = pure (some [x, y]) := by rfl)
    (hs : swapsWithSole [.Tuple [.Name x px, .Name y py] kt pt] (.Tuple [a, b] k2 pt2) pos.line X.env = pure false := by rfl) : PSM X E (.Assign [.Tuple [.Name x px, .Name y py] kt pt] (.Tuple [a, b] k2 pt2) pos) (mPar i j mr) :=
  ps_imp (ps_par hc hN hi hj hij hx hy ha hw hs) fun D σ H h => tS.bind h fun ρ1 H1 ws xs s S1 rep env r o => by
    match ws, r, o with
    | [], _, o => exact o.elim
    | [_], _, o => exact o.elim
    | _ :: _ :: _ :: _, _, o => exact o.elim
    | [v, w], r, o =>
      obtain ⟨v', w', rfl, r1, r2⟩ := r.two
      exact ⟨_, _, rfl, OutS.nx o rep ((env.set i r1).set j r2)⟩
def mPar3 (i j l : Nat) (mr : SM (List W)) : SS := fun s S => (mr s S).bind fun ws S1 => match ws with
  | [u, v, w] => .ok (.nx, ((s.set i (some u)).set j (some v)).set l (some w)) S1
  | _ => .bad
theorem psm_par3 (i j l : Nat) {x y z : Str} {c : Expr} {mr : SM (List W)} {px py pz pt : Pos} {kt k2 pt2} (hc : X.calm = true) (hN : X.N.Nodup) (ha : PAM X E [a, b, c] mr) (hi : X.N[i]? = some x := by rfl) (hj : X.N[j]? = some y := by rfl) (hl : X.N[l]? = some z := by rfl) (hij : i ≠ j := by decide) (hil : i ≠ l := by decide) (hjl : j ≠ l := by decide)
    (hx : X.env.scope.names.lookup x = some .local := by rfl) (hy : X.env.scope.names.lookup y = some .local := by rfl) (hz : X.env.scope.names.lookup z = some .local := by rfl)
    (hw : swappedStores [.Tuple [.Name x px, .Name y py, .Name z pz] kt pt] (.Tuple [a, b, c] k2 pt2) X.env = pure (some [x, y, z]) := by rfl)
    (hs : swapsWithSole [.Tuple [.Name x px, .Name y py, .Name z pz] kt pt] (.Tuple [a, b, c] k2 pt2) pos.line X.env = pure false := by rfl) : PSM X E (.Assign [.Tuple [.Name x px, .Name y py, .Name z pz] kt pt] (.Tuple [a, b, c] k2 pt2) pos) (mPar3 i j l mr) :=
  ps_imp (ps_par3 hc hN hi hj hl hij hil hjl hx hy hz ha hw hs) fun D σ H h => tS.bind h fun ρ1 H1 ws xs s S1 rep env r o => by
    match ws, r, o with
    | [], _, o => exact o.elim
    | [_], _, o => exact o.elim
    | [_, _], _, o => exact o.elim
    | _ :: _ :: _ :: _ :: _, _, o => exact o.elim
    | [u, v, w], r, o =>
      cases r with
      | cons r0 rr =>
        obtain ⟨v', w', rfl, r1, r2⟩ := rr.two
        exact ⟨_, _, _, rfl, OutS.nx o rep (((env.set i r0).set j r1).set l r2)⟩
/-- o[i] = e, o a list of the store -/
def gSetI (o i v : W) (S : Store) : Res Unit := match o with
  | .ref l => match i with
    | .int k => match S[l]? with
      | some (.lst ws) => match ixN ws.length k with
        | some j => .ok () (S.set l (.lst (ws.set j v)))
        | none => .bad
      | _ => .bad
    | _ => .bad
  | _ => .bad
def gSubI (mo mi : SM W) : GM := fun v s S => (mo s S).bind fun o S1 => (mi s S1).bind fun i S2 => (gSetI o i v S2).bind fun _ S3 => .ok s S3
theorem set_all : PSet X (fun o i v H Q => ∃ ρ S w1 w2 w3, RepS X.K X.mg ρ H S ∧ RW X.K X.mg ρ H w1 o ∧ RW X.K X.mg ρ H w2 i ∧ RW X.K X.mg ρ H w3 v ∧ Out X.K X.mg (fun _ _ (_ : Unit) (_ : Unit) => True) E ρ H (gSetI w1 w2 w3 S) (fun _ H' => Q H')) := by
  intro pins s σ H o i v ov iv u Q I ro ri rv ⟨ρ, S, w1, w2, w3, rep, r1, r2, r3, out⟩
  cases w1 with
  | ref l =>
    cases w2 with
    | int k =>
      cases r1 with
      | @ref l a hl =>
        cases e : S[l]? with
        | none => simp only [gSetI, e] at out; exact out.elim
        | some ob =>
          cases ob with
          | lst ws =>
            cases e2 : ixN ws.length k with
            | none => simp only [gSetI, e, e2] at out; exact out.elim
            | some j =>
              simp only [gSetI, e, e2] at out
              obtain ⟨a', h1, h2⟩ := rep.ob l _ e
              rw [hl] at h1; cases h1
              cases h2 with
              | @lst vs _ h3 h4 =>
                cases r2
                refine set_list pins s σ H _ _ _ ov iv u Q I ro ri rv ⟨a, vs, k, j, rfl, rfl, h3, by rw [← h4.length]; exact e2, ?_⟩
                have ma : a ∈ ρ.r := List.mem_of_getElem? hl
                have ex : Ext ρ H ρ (upd H a (.lst (vs.set j v))) := ⟨fun _ _ h => h, fun _ h => h, fun _ h => .inl h, fun b u hb n => by rw [upd_ne fun z : b = a => n (by rw [z]; exact ma)]; exact hb, fun _ h => .inl h, fun b _ hb => by
                  by_cases hz : b = a
                  · subst hz; rw [upd_same]; simp
                  · rw [upd_ne hz]; exact hb⟩
                obtain ⟨e3, rep3⟩ := rep.wr hl (o := .lst (vs.set j v)) (u := .lst (ws.set j w3)) (.lst upd_same ((h4.set r3 j).ext ex))
                exact out ρ _ () e3 rep3 True.intro
          | _ => simp only [gSetI, e] at out; exact out.elim
    | _ => exact out.elim
  | _ => exact out.elim
theorem pgm_sub (ho : PM X E o mo) (hi : PM X E i mi)
    (ha : ∀ v, assign (.Subscript o i pos) X.env v = (do
      let ov ← holding [v] (eval o X.env)
      let iv ← holding [v, ov] (eval i X.env)
      standAt pos
      holding [v, ov, iv] (setItem ov iv v)
      release [v, ov, iv] []) := by intros; rfl) : PGM X E (.Subscript o i pos) vs (gSubI mo mi) :=
  pg_imp (pg_sub ho hi set_all ha) fun v σ H Q ⟨ρ, s, S, w, rep, env, r, out⟩ => ⟨ρ, s, S, rep, env, Out.bind out fun ρ1 H1 w1 x1 S1 e1 rep1 r1 o1 => ⟨ρ1, s, S1, rep1, env.ext e1, Out.bind o1 fun ρ2 H2 w2 x2 S2 e2 rep2 r2 o2 => ⟨ρ2, S2, w1, w2, w, rep2, r1.ext e2, r2, (r.ext e1).ext e2, Out.bind o2 fun ρ3 H3 _ _ S3 e3 rep3 _ o3 => Out.here o3 rep3 ⟨((env.ext e1).ext e2).ext e3, rfl⟩⟩⟩⟩
/-- x op= e -/
def mAug (i : Nat) (g : W → W → Store → Res W) (ma : SM W) : SS := fun s S => match s[i]? with
  | some (some x) => (ma s S).bind fun y S1 => (g x y S1).bind fun z S2 => .ok (.nx, s.set i (some z)) S2
  | _ => .bad
def IpM (X : Cx) (E : XK) (op : Operator) (g : W → W → Store → Res W) : Prop := PIp X op (R2M X E g)
theorem psm_aug (i : Nat) {x : Str} {p : Pos} {op : Operator} {g : W → W → Store → Res W} (ho : IpM X E op g) (ha : PM X E a ma) (hN : X.N.Nodup) (hi : X.N[i]? = some x := by rfl) (hx : Loc X.env.scope x := by first | exact Or.inl rfl | exact Or.inr rfl)
    (hf : X.fn x = true ∨ X.env.scope.names.lookup x = some .local := by first | exact .inl rfl | exact .inr rfl) : PSM X E (.AugAssign (.Name x p) op a pos) (mAug i g ma) :=
  ps_imp (ps_aug hN hi hx ha ho hf) fun D σ H ⟨ρ, s, S, rep, env, o⟩ => by
    unfold mAug at o
    cases e : s[i]? with
    | none => rw [e] at o; exact o.elim
    | some q =>
      cases q with
      | none => rw [e] at o; exact o.elim
      | some w =>
        rw [e] at o
        obtain ⟨v, h1, h2⟩ := env.look i w e
        exact ⟨v, h1, ρ, s, S, rep, env, OutS.bind o fun ρ1 H1 y y' S1 e1 rep1 r1 o1 => ⟨ρ1, S1, w, y, rep1, h2.ext e1, r1, OutS.bind o1 fun ρ2 H2 z z' S2 e2 rep2 r2 o2 => OutS.nx o2 rep2 (((env.ext e1).ext e2).set i r2)⟩⟩
theorem im_add : IpM X E .Add (gI fun i j => i + j) := by
  intro pins s σ H x y v u Q I rx ry ⟨ρ, S, w1, w2, rep, r1, r2, o⟩
  cases w1 with
  | int i =>
    cases w2 with
    | int j => cases r1; cases r2; exact ip_add pins s σ H _ _ v u Q I rx ry ⟨i, j, rfl, rfl, Out.here o rep (.int _)⟩
    | _ => exact o.elim
  | _ => exact o.elim
end

/-! ### while -/
/-- so many turns at most -/
def mWhileN (nc : SM Bool) (mb : SS) : Nat → SS
  | 0 => fun _ _ => .bad
  | n + 1 => fun s S => (nc s S).bind fun k S1 => if k = true then (mb s S1).bind fun p S2 => match p with
      | (.nx, s2) => mWhileN nc mb n s2 S2
      | (.ct, s2) => mWhileN nc mb n s2 S2
      | (.bk, s2) => .ok (.nx, s2) S2
      | (.rt w, s2) => .ok (.rt w, s2) S2
    else .ok (.nx, s) S1
section
variable {X : Cx} {E : XK} {pos : Pos}
theorem psm_while {c : Expr} {body : List Stmt} {nc : SM Bool} {mb : SS} (n : Nat) (hp : PassesOwn (model X.prog X.w) X.A X.env X.xe) (hc : PTM X E c nc) (hb : PSsM X E body mb) : PSM X E (.While c body [] pos) (mWhileN nc mb n) :=
  ps_imp (ps_while hp hc hb) fun D σ H ⟨ρ, s, S, rep, env, o⟩ => by
    refine ⟨fun m σ' H' => ∃ ρ' s' S', RepS X.K X.mg ρ' H' S' ∧ REnv X.K X.mg ρ' H' s' σ' ∧ OutS X.K X.mg E ρ' H' (mWhileN nc mb m s' S') D, ⟨n, ρ, s, S, rep, env, o⟩, ?_⟩
    rintro m σ1 H1 ⟨ρ1, s1, S1, rep1, env1, o1⟩
    cases m with
    | zero => exact o1.elim
    | succ m =>
      refine ⟨ρ1, s1, S1, rep1, env1, OutS.bind o1 fun ρ2 H2 k k' S2 e2 rep2 r2 o2 => ?_⟩
      cases r2
      cases k with
      | false => rw [if_neg Bool.false_ne_true] at o2; rw [if_neg Bool.false_ne_true]; exact OutS.nx o2 rep2 (env1.ext e2)
      | true =>
        rw [if_pos rfl] at o2; rw [if_pos rfl]
        refine ⟨fun σ' H' => ∃ ρ' s' S', RepS X.K X.mg ρ' H' S' ∧ REnv X.K X.mg ρ' H' s' σ' ∧ OutS X.K X.mg E ρ' H' (mWhileN nc mb m s' S') D, fun σ' H' h => ⟨m, Nat.lt_succ_self m, h⟩, ρ2, s1, S2, rep2, env1.ext e2, ?_⟩
        cases e : mb s1 S2 with
        | ok p S3 =>
          obtain ⟨f, s3⟩ := p
          rw [e] at o2
          cases f with
          | nx => exact fun ρ3 H3 σ3 x rep3 env3 => ⟨ρ3, s3, S3, rep3, env3, OutS.ext x o2⟩
          | ct => exact fun ρ3 H3 σ3 x rep3 env3 => ⟨ρ3, s3, S3, rep3, env3, OutS.ext x o2⟩
          | bk => exact o2
          | rt w => exact o2
        | exc c ns ws S3 => rw [e] at o2; exact o2
        | bad => rw [e] at o2; exact o2
end

/-! ### what a for walks -/
/-- J walks the items ws, whatever happens beside -/
def RIt (K : PySem.W.Frag) (mg : Str → Option Value) : Rl It (List W) := fun ρ H ws J => ∀ ρ' H' S', Ext ρ H ρ' H' → RepS K mg ρ' H' S' → ∀ i : Nat,
  (∀ w, ws[i]? = some w → J.go i H' ∧ ∀ x H2, J.yld i H' x H2 → Ext ρ' H' ρ' H2 ∧ RepS K mg ρ' H2 S' ∧ RW K mg ρ' H2 w x) ∧ (ws.length = i → J.stop i H')
def PIM (X : Cx) (E : XK) (tg iter : Expr) (mi : SM (List W)) : Prop := PI X tg iter (tX X.K X.mg (RIt X.K X.mg) E mi)
theorem pi_imp {X : Cx} {tg e : Expr} {t t' : TI} (h : PI X tg e t) (f : ∀ σ H R, t' σ H R → t σ H R) : PI X tg e t' := ⟨fun pins s σ H R I q => h.run pins s σ H R I (f σ H R q)⟩
/-- the items of a list (no object of the store) -/
def itL : W → Option (List W)
  | .lst ws => some ws
  | .flst ws => some ws
  | _ => none
section
variable {K : PySem.W.Frag} {mg : Str → Option Value} {ρ ρ' : RT} {H H' : Hp} {S : Store}
theorem itL_of {w : W} {x : V} {ws : List W} (r : RW K mg ρ H w x) (h : itL w = some ws) : ∃ a vs, x = .ref a ∧ RWs K mg ρ H ws vs ∧ ∀ ρ' H', Ext ρ H ρ' H' → SqL K H' a vs := by
  cases w with
  | lst us => cases h; cases r with | lst hf hr => exact ⟨_, _, rfl, hr, fun ρ' H' e => .inl (.inl (hf.ext e).1)⟩
  | flst us => cases h; cases r with | flst hf hr => exact ⟨_, _, rfl, hr, fun ρ' H' e => sqF_of (hf.imp (fun ⟨o, z⟩ => ⟨o, z.ext e⟩) id)⟩
  | _ => cases h
theorem tup_still {a : Addr} {vs : List V} (h : Fx ρ H a (.tup vs) ∨ KTup K a vs) (e : Ext ρ H ρ' H') : SqT K H' a vs := sqT_of (h.imp (fun z => z.ext e) id)
theorem rit_list {a : Addr} {ws : List W} {vs : List V} (r : RWs K mg ρ H ws vs) (hl : ∀ ρ' H', Ext ρ H ρ' H' → SqL K H' a vs) : RIt K mg ρ H ws (Itl K a) := fun ρ' H' S' e rep i => by
  refine ⟨fun w hw => ?_, fun hi => ⟨vs, hl _ _ e, by rw [← r.length, hi]; exact Nat.le_refl _⟩⟩
  obtain ⟨v, h1, h2⟩ := r.get hw
  refine ⟨⟨vs, v, hl _ _ e, h1⟩, fun x H2 hy => ?_⟩
  obtain ⟨rfl, hy⟩ := hy
  have : v = x := Option.some.inj (h1.symm.trans (hy vs (hl _ _ e)))
  subst this
  exact ⟨Ext.refl _ _, rep, h2.ext e⟩
theorem rit_tup {a : Addr} {ws : List W} {vs : List V} (r : RWs K mg ρ H ws vs) (hl : ∀ ρ' H', Ext ρ H ρ' H' → SqT K H' a vs) : RIt K mg ρ H ws (Itt K a) := fun ρ' H' S' e rep i => by
  refine ⟨fun w hw => ?_, fun hi => ⟨vs, hl _ _ e, by rw [← r.length, hi]; exact Nat.le_refl _⟩⟩
  obtain ⟨v, h1, h2⟩ := r.get hw
  refine ⟨⟨vs, v, hl _ _ e, h1⟩, fun x H2 hy => ?_⟩
  obtain ⟨rfl, hy⟩ := hy
  have : v = x := Option.some.inj (h1.symm.trans (hy vs (hl _ _ e)))
  subst this
  exact ⟨Ext.refl _ _, rep, h2.ext e⟩
def rngW (lo : Int) (n : Nat) : List W := (List.range n).map fun (i : Nat) => .int (lo + i)
theorem rngW_len (lo : Int) (n : Nat) : (rngW lo n).length = n := by simp [rngW]
theorem rngW_get {lo : Int} {n i : Nat} {w : W} (h : (rngW lo n)[i]? = some w) : i < n ∧ w = .int (lo + i) := by
  unfold rngW at h
  rw [List.getElem?_map] at h
  cases e : (List.range n)[i]? with
  | none => rw [e] at h; cases h
  | some j =>
    rw [e] at h
    obtain ⟨h1, h2⟩ := List.getElem?_eq_some_iff.mp e
    rw [List.getElem_range] at h2
    subst h2
    exact ⟨by simpa using h1, (Option.some.inj h).symm⟩
theorem rit_range {lo : Int} {n : Nat} : RIt K mg ρ H (rngW lo n) (Itr lo n) := fun ρ' H' S' e rep i => by
  refine ⟨fun w hw => ?_, fun hi => by rw [rngW_len] at hi; exact Nat.le_of_eq hi⟩
  obtain ⟨h1, rfl⟩ := rngW_get hw
  refine ⟨h1, fun x H2 hy => ?_⟩
  obtain ⟨rfl, rfl⟩ := hy
  exact ⟨Ext.refl _ _, rep, .int _⟩
def signs (x : Str) : List W := x.cps.toList.map fun c => .str ⟨#[c]⟩
theorem rit_str {x : Str} : RIt K mg ρ H (signs x) (Its x) := fun ρ' H' S' e rep i => by
  refine ⟨fun w hw => ?_, fun hi => by unfold signs at hi; rw [List.length_map, Array.length_toList] at hi; exact Nat.le_of_eq hi⟩
  unfold signs at hw
  rw [List.getElem?_map] at hw
  cases e2 : x.cps.toList[i]? with
  | none => rw [e2] at hw; cases hw
  | some c =>
    rw [e2] at hw
    cases (Option.some.inj hw)
    refine ⟨(by simpa using (List.getElem?_eq_some_iff.mp e2).1 : i < x.cps.size), fun y H2 hy => ?_⟩
    obtain ⟨rfl, c', h1, rfl⟩ := hy
    have : c = c' := by
      rw [Array.getElem?_toList] at e2
      exact Option.some.inj (e2.symm.trans h1)
    subst this
    exact ⟨Ext.refl _ _, rep, .str _⟩
theorem rw_pair {T : Addr} {w1 w2 : W} {x y : V} (rep : RepS K mg ρ H S) (hT : H T = none) (r1 : RW K mg ρ H w1 x) (r2 : RW K mg ρ H w2 y) : Ext ρ H ρ (upd H T (.tup [x, y])) ∧ RepS K mg ρ (upd H T (.tup [x, y])) S ∧ RW K mg ρ (upd H T (.tup [x, y])) (.tup [w1, w2]) (.ref T) := by
  obtain ⟨e, rep'⟩ := rep.tree hT (.tup [x, y])
  exact ⟨e, rep', .tup (.inl (fx_new rep hT _)) (.cons (r1.ext e) (.cons (r2.ext e) .nil))⟩
def zipW (ws us : List W) : List W := (ws.zip us).map fun p => .tup [p.1, p.2]
theorem zipW_get {ws us : List W} {i : Nat} {w : W} (h : (zipW ws us)[i]? = some w) : ∃ a b, ws[i]? = some a ∧ us[i]? = some b ∧ w = .tup [a, b] := by
  unfold zipW at h
  rw [List.getElem?_map] at h
  cases e : (ws.zip us)[i]? with
  | none => rw [e] at h; cases h
  | some p =>
    rw [e] at h
    obtain ⟨h1, h2⟩ := List.getElem?_zip_eq_some.mp e
    exact ⟨p.1, p.2, h1, h2, (Option.some.inj h).symm⟩
theorem rit_zipL {a b : Addr} {ws us : List W} {vs xs : List V} (r : RWs K mg ρ H ws vs) (r' : RWs K mg ρ H us xs) (hl : ∀ ρ' H', Ext ρ H ρ' H' → SqL K H' a vs) (hl' : ∀ ρ' H', Ext ρ H ρ' H' → SqL K H' b xs) : RIt K mg ρ H (zipW ws us) (Itz K a b) := fun ρ' H' S' e rep i => by
  refine ⟨fun w hw => ?_, fun hi => ⟨vs, xs, hl _ _ e, hl' _ _ e, ?_⟩⟩
  · obtain ⟨w1, w2, h1, h2, rfl⟩ := zipW_get hw
    obtain ⟨v1, g1, q1⟩ := r.get h1
    obtain ⟨v2, g2, q2⟩ := r'.get h2
    refine ⟨⟨vs, xs, v1, v2, hl _ _ e, hl' _ _ e, g1, g2⟩, fun x H2 hy => ?_⟩
    obtain ⟨T, x1, x2, rfl, hT, rfl, f1, f2⟩ := hy
    have e1 : v1 = x1 := Option.some.inj (g1.symm.trans (f1 vs (hl _ _ e)))
    have e2 : v2 = x2 := Option.some.inj (g2.symm.trans (f2 xs (hl' _ _ e)))
    subst e1 e2
    exact rw_pair rep hT (q1.ext e) (q2.ext e)
  · unfold zipW at hi
    rw [List.length_map, List.length_zip] at hi
    rw [← r.length, ← r'.length]
    omega
theorem rit_zipT {a b : Addr} {ws us : List W} {vs xs : List V} (r : RWs K mg ρ H ws vs) (r' : RWs K mg ρ H us xs) (hl : ∀ ρ' H', Ext ρ H ρ' H' → SqT K H' a vs) (hl' : ∀ ρ' H', Ext ρ H ρ' H' → SqT K H' b xs) : RIt K mg ρ H (zipW ws us) (RZ.ItzT K a b) := fun ρ' H' S' e rep i => by
  refine ⟨fun w hw => ?_, fun hi => ⟨vs, xs, hl _ _ e, hl' _ _ e, ?_⟩⟩
  · obtain ⟨w1, w2, h1, h2, rfl⟩ := zipW_get hw
    obtain ⟨v1, g1, q1⟩ := r.get h1
    obtain ⟨v2, g2, q2⟩ := r'.get h2
    refine ⟨⟨vs, xs, v1, v2, hl _ _ e, hl' _ _ e, g1, g2⟩, fun x H2 hy => ?_⟩
    obtain ⟨T, x1, x2, rfl, hT, rfl, f1, f2⟩ := hy
    have e1 : v1 = x1 := Option.some.inj (g1.symm.trans (f1 vs (hl _ _ e)))
    have e2 : v2 = x2 := Option.some.inj (g2.symm.trans (f2 xs (hl' _ _ e)))
    subst e1 e2
    exact rw_pair rep hT (q1.ext e) (q2.ext e)
  · unfold zipW at hi
    rw [List.length_map, List.length_zip] at hi
    rw [← r.length, ← r'.length]
    omega
theorem rit_enum {a : Addr} {ws : List W} {vs : List V} (r : RWs K mg ρ H ws vs) (hl : ∀ ρ' H', Ext ρ H ρ' H' → SqL K H' a vs) : RIt K mg ρ H (zipW (rngW 0 ws.length) ws) (Ite K a) := fun ρ' H' S' e rep i => by
  have wk := (walk_enum (K := K) (a := a) (xs := vs))
  refine ⟨fun w hw => ?_, fun hi => ?_⟩
  · obtain ⟨w1, w2, h1, h2, rfl⟩ := zipW_get hw
    obtain ⟨hlt, rfl⟩ := rngW_get h1
    obtain ⟨v2, g2, q2⟩ := r.get h2
    have hi : i < vs.length := (List.getElem?_eq_some_iff.mp g2).1
    refine ⟨wk.goes i H' hi (hl _ _ e), fun x H2 hy => ?_⟩
    obtain ⟨T, x1, x2, rfl, hT, rfl, f1, f2⟩ := wk.yields i H' x H2 hi (hl _ _ e) hy
    have e1 : x1 = .int (0 + (i : Nat)) := by rw [Int.zero_add]; exact (Option.some.inj f1).symm
    have e2 : v2 = x2 := Option.some.inj (g2.symm.trans f2)
    subst e1 e2
    exact rw_pair rep hT (.int _) (q2.ext e)
  · unfold zipW at hi
    rw [List.length_map, List.length_zip, rngW_len, Nat.min_self] at hi
    have hi2 : vs.length = i := by rw [← r.length]; exact hi
    subst hi2
    exact wk.stops H' (hl _ _ e)
end
end RL
end

section
set_option maxRecDepth 100000
set_option maxHeartbeats 2000000
namespace RL
open PySem PySem.Spec L2
open PyProof.Rows hiding St

/-! ### iterators: fixed items, or a list of the store as it stands at each turn -/
inductive ItW where
  | fix (ws : List W)
  | dyn (l : Nat)
def RI (K : PySem.W.Frag) (mg : Str → Option Value) : Rl It ItW := fun ρ H it J => match it with
  | .fix ws => RIt K mg ρ H ws J
  | .dyn l => ∃ a, ρ.r[l]? = some a ∧ J = Itl K a
def PIM' (X : Cx) (E : XK) (tg iter : Expr) (mi : SM ItW) : Prop := PI X tg iter (tX X.K X.mg (RI X.K X.mg) E mi)
/-- the list at place l of the store -/
def lstAt (S : Store) (l : Nat) : Option (List W) := match S[l]? with
  | some (.lst ws) => some ws
  | _ => none
theorem lstAt_of {K : PySem.W.Frag} {mg : Str → Option Value} {ρ : RT} {H : Hp} {S : Store} {l : Nat} {a : Addr} {ws : List W} (rep : RepS K mg ρ H S) (hl : ρ.r[l]? = some a) (h : lstAt S l = some ws) : ∃ vs, H a = some (.lst vs) ∧ RWs K mg ρ H ws vs := by
  unfold lstAt at h
  cases e : S[l]? with
  | none => rw [e] at h; cases h
  | some ob =>
    cases ob with
    | lst us =>
      rw [e] at h
      cases (Option.some.inj h : us = ws)
      obtain ⟨a', h1, h2⟩ := rep.ob l _ e
      rw [hl] at h1; cases h1
      cases h2 with | lst h3 h4 => exact ⟨_, h3, h4⟩
    | _ => rw [e] at h; cases h

def mItems (m : SM W) : SM ItW := fun s S => (m s S).bind fun w S1 => match w with
  | .lst ws => .ok (.fix ws) S1
  | .flst ws => .ok (.fix ws) S1
  | .tup ws => .ok (.fix ws) S1
  | .str x => .ok (.fix (signs x)) S1
  | .ref l => match lstAt S1 l with
    | some _ => .ok (.dyn l) S1
    | none => .bad
  | _ => .bad
def iAny (K : PySem.W.Frag) (te : TE) : TI := fun σ H R => te σ H fun x H1 => (∃ a, x = .ref a ∧ (∃ xs, SqL K H1 a xs) ∧ R (Itl K a) H1) ∨ (∃ a, x = .ref a ∧ (∃ xs, SqT K H1 a xs) ∧ R (Itt K a) H1) ∨ ∃ z, x = .str z ∧ R (Its z) H1
section
variable {X : Cx} {E : XK} {pos : Pos} {tg a b : Expr} {ma : SM W} {es : List Expr}
theorem pi_any {te : TE} (ha : PE X a te) : PI X tg a (iAny X.K te) := by
  refine ⟨fun pins s σ H R I h => ?_⟩
  refine thn (ha.run pins s σ H _ I h) fun v s1 ⟨x, H1, I1, r1, q1⟩ => ?_
  rcases q1 with ⟨p, e, ⟨xs, hq⟩, q⟩ | ⟨p, e, ⟨xs, hq⟩, q⟩ | ⟨z, e, q⟩
  · subst e
    cases r1
    obtain ⟨its, rv, pp, hz⟩ := I1.list hq
    refine wpAny_pyIter_list pp.isList ?_
    refine ⟨s1.heap.objs.size, [s1.heap.objs.size], _, _, H1, rfl, I1.kept (t' := s1.toks) fun b o e => Heap.get?_push_of_some _ e, turn_list p _, ⟨_, Heap.get?_push_size _ rfl, rfl, rfl⟩, fun b hb => ?_, q⟩
    have e : b = s1.heap.objs.size := by simpa using hb
    subst e
    exact I1.fpOk (Nat.le_refl _) (I1.hok.fresh (Nat.le_refl _))
  · subst e
    cases r1
    obtain ⟨its, rv, pp, hz⟩ := I1.tuple hq
    refine wpAny_pyIter_tuple (show s1.heap.IsTuple p its.toArray from pp) ?_
    refine ⟨s1.heap.objs.size, [s1.heap.objs.size], _, _, H1, rfl, I1.kept (t' := s1.toks) fun b o e => Heap.get?_push_of_some _ e, turn_tuple p _, ⟨_, Heap.get?_push_size _ rfl, rfl, rfl⟩, fun b hb => ?_, q⟩
    have e : b = s1.heap.objs.size := by simpa using hb
    subst e
    exact I1.fpOk (Nat.le_refl _) (I1.hok.fresh (Nat.le_refl _))
  · subst e
    obtain ⟨t, rfl⟩ := r1
    cases ha : z.cps.all (· < 128)
    · exact wpAny_pyIter_wide ha (pi_one (tk := s1.toks) I1 _ (turn_str _ z t "str_iterator" (.inr rfl)) ⟨_, Heap.get?_push_size _ rfl, rfl, rfl⟩ q)
    · exact wpAny_pyIter_ascii ha (pi_one (tk := s1.toks) I1 _ (turn_str _ z t "str_ascii_iterator" (.inl rfl)) ⟨_, Heap.get?_push_size _ rfl, rfl, rfl⟩ q)
theorem pim_any (ha : PM X E a ma) : PIM' X E tg a (mItems ma) := pi_imp (pi_any ha) fun σ H R h => tX.bind h fun ρ1 H1 w x s S1 rep env r o => by
  cases w with
  | lst ws =>
    obtain ⟨p, vs, rfl, hr, hs⟩ := itL_of r (ws := ws) rfl
    exact .inl ⟨p, rfl, ⟨vs, hs _ _ (Ext.refl _ _)⟩, Out.here o rep (rit_list hr hs)⟩
  | flst ws =>
    obtain ⟨p, vs, rfl, hr, hs⟩ := itL_of r (ws := ws) rfl
    exact .inl ⟨p, rfl, ⟨vs, hs _ _ (Ext.refl _ _)⟩, Out.here o rep (rit_list hr hs)⟩
  | tup ws =>
    cases r with
    | tup hf hr => exact .inr (.inl ⟨_, rfl, ⟨_, sqT_of hf⟩, Out.here o rep (rit_tup hr fun ρ' H' e => tup_still hf e)⟩)
  | str z => cases r; exact .inr (.inr ⟨z, rfl, Out.here o rep rit_str⟩)
  | ref l =>
    cases r with
    | @ref l p hl =>
      have o : Out X.K X.mg (RI X.K X.mg) E ρ1 H1 (match lstAt S1 l with
        | some _ => Res.ok (ItW.dyn l) S1
        | none => Res.bad) R := o
      cases e : lstAt S1 l with
      | none => rw [e] at o; exact o.elim
      | some ws =>
        rw [e] at o
        obtain ⟨vs, h1, h2⟩ := lstAt_of rep hl e
        exact .inl ⟨p, rfl, ⟨vs, .inl (.inl h1)⟩, Out.here o rep ⟨p, hl, rfl⟩⟩
  | _ => exact o.elim
def okR (j : Int) : Bool := decide (-(2 ^ 62) ≤ j) && decide (j < 2 ^ 62)
def mRange1 (mr : SM (List W)) : SM ItW := fun s S => (mr s S).bind fun ws S1 => match ws with
  | [.int j] => if okR j = true then .ok (.fix (rngW 0 j.toNat)) S1 else .bad
  | _ => .bad
theorem pim_range1 {mr : SM (List W)} {p : Pos} (hm : X.mg "range" = none) (ha : PAM X E [a] mr) (hg : Gl X "range" := by rfl) (hs : starEach [a] X.env = [(false, eval a X.env)] := by rfl) : PIM' X E tg (.Call (.Name "range" p) [a] [] pos) (mRange1 mr) :=
  pi_imp (pi_range1 hg hm ha hs) fun σ H R h => tX.bind h fun ρ1 H1 ws xs s S1 rep env r o => by
    match ws, r, o with
    | [], _, o => exact o.elim
    | [w], r, o =>
      obtain ⟨x, rfl, r1⟩ := r.one
      cases w with
      | int j =>
        cases r1
        have o : Out X.K X.mg (RI X.K X.mg) E ρ1 H1 (if okR j = true then Res.ok (ItW.fix (rngW 0 j.toNat)) S1 else Res.bad) R := o
        split at o
        · rename_i hz
          simp only [okR, Bool.and_eq_true, decide_eq_true_eq] at hz
          exact ⟨j, rfl, hz.1, hz.2, Out.here o rep rit_range⟩
        · exact o.elim
      | _ => exact o.elim
    | w :: _ :: _, _, o => cases w <;> exact o.elim
def mRange2 (mr : SM (List W)) : SM ItW := fun s S => (mr s S).bind fun ws S1 => match ws with
  | [.int i, .int j] => if okR i = true ∧ okR j = true then .ok (.fix (rngW i (j - i).toNat)) S1 else .bad
  | _ => .bad
theorem pim_range2 {mr : SM (List W)} {p : Pos} (hm : X.mg "range" = none) (ha : PAM X E [a, b] mr) (hg : Gl X "range" := by rfl) (hs : starEach [a, b] X.env = [(false, eval a X.env), (false, eval b X.env)] := by rfl) (hs2 : starEach [b] X.env = [(false, eval b X.env)] := by rfl) : PIM' X E tg (.Call (.Name "range" p) [a, b] [] pos) (mRange2 mr) :=
  pi_imp (pi_range2 hg hm ha hs hs2) fun σ H R h => tX.bind h fun ρ1 H1 ws xs s S1 rep env r o => by
    match ws, r, o with
    | [], _, o => exact o.elim
    | [w], _, o => cases w <;> exact o.elim
    | [w, w'], r, o =>
      obtain ⟨x, y, rfl, r1, r2⟩ := r.two
      cases w with
      | int i =>
        cases w' with
        | int j =>
          cases r1; cases r2
          have o : Out X.K X.mg (RI X.K X.mg) E ρ1 H1 (if okR i = true ∧ okR j = true then Res.ok (ItW.fix (rngW i (j - i).toNat)) S1 else Res.bad) R := o
          split at o
          · rename_i hz
            simp only [okR, Bool.and_eq_true, decide_eq_true_eq] at hz
            exact ⟨i, j, rfl, ⟨hz.1.1, hz.1.2, hz.2.1, hz.2.2⟩, Out.here o rep rit_range⟩
          · exact o.elim
        | _ => exact o.elim
      | _ => exact o.elim
    | w :: w' :: _ :: _, _, o => cases w <;> first | (cases w' <;> exact o.elim) | exact o.elim
/-- zip of two lists, of two tuples -/
def mZip (mr : SM (List W)) : SM ItW := fun s S => (mr s S).bind fun ws S1 => match ws with
  | [w, w'] => match itL w, itL w' with
    | some a, some b => .ok (.fix (zipW a b)) S1
    | _, _ => match tupL w, tupL w' with
      | some a, some b => .ok (.fix (zipW a b)) S1
      | _, _ => .bad
  | _ => .bad
theorem pim_zip {mr : SM (List W)} {p tpos : Pos} {elts : List Expr} {kk : Nat} (hm : X.mg "zip" = none) (ha : PAM X E [a, b] mr) (hg : Gl X "zip" := by rfl) (hs : starEach [a, b] X.env = (false, eval a X.env) :: starEach [b] X.env := by rfl) (hpl : (backTo pos (starEach [b] X.env)).any (·.1) = false := by rfl) :
    PIM' X E (.Tuple elts kk tpos) (.Call (.Name "zip" p) [a, b] [] pos) (mZip mr) :=
  pi_imp (RZ.pi_zipA hg hm ha hs hpl) fun σ H R h => tX.bind h fun ρ1 H1 ws xs s S1 rep env r o => by
    match ws, r, o with
    | [], _, o => exact o.elim
    | [_], _, o => exact o.elim
    | _ :: _ :: _ :: _, _, o => exact o.elim
    | [w, w'], r, o =>
      obtain ⟨x, y, rfl, r1, r2⟩ := r.two
      have o : Out X.K X.mg (RI X.K X.mg) E ρ1 H1 (match itL w, itL w' with
        | some a, some b => Res.ok (ItW.fix (zipW a b)) S1
        | _, _ => match tupL w, tupL w' with
          | some a, some b => Res.ok (ItW.fix (zipW a b)) S1
          | _, _ => Res.bad) R := o
      have two : (itL w = none ∨ itL w' = none) → Out X.K X.mg (RI X.K X.mg) E ρ1 H1 (match tupL w, tupL w' with
          | some a, some b => Res.ok (ItW.fix (zipW a b)) S1
          | _, _ => Res.bad) R := fun hn => by
        cases e1 : itL w with
        | none => rw [e1] at o; exact o
        | some _ =>
          cases e2 : itL w' with
          | none => rw [e1, e2] at o; exact o
          | some _ =>
            rcases hn with z | z
            · rw [e1] at z; cases z
            · rw [e2] at z; cases z
      have tups : (itL w = none ∨ itL w' = none) → ∃ a b xs ys, [x, y] = [V.ref a, V.ref b] ∧ ((SqL X.K H1 a xs ∧ SqL X.K H1 b ys ∧ R (Itz X.K a b) H1) ∨ (SqT X.K H1 a xs ∧ SqT X.K H1 b ys ∧ R (RZ.ItzT X.K a b) H1)) := fun hn => by
        have o := two hn
        cases w with
        | tup us =>
          cases w' with
          | tup us' =>
            cases r1 with
            | tup hf hr =>
              cases r2 with
              | tup hf' hr' => exact ⟨_, _, _, _, rfl, .inr ⟨sqT_of hf, sqT_of hf', Out.here o rep (rit_zipT hr hr' (fun ρ' H' e => tup_still hf e) fun ρ' H' e => tup_still hf' e)⟩⟩
          | _ => exact o.elim
        | _ => exact o.elim
      cases e1 : itL w with
      | none => exact tups (.inl e1)
      | some us =>
        cases e2 : itL w' with
        | none => exact tups (.inr e2)
        | some us' =>
          rw [e1, e2] at o
          obtain ⟨p, vs, rfl, hr, hs⟩ := itL_of r1 e1
          obtain ⟨p', vs', rfl, hr', hs'⟩ := itL_of r2 e2
          exact ⟨_, _, _, _, rfl, .inl ⟨hs _ _ (Ext.refl _ _), hs' _ _ (Ext.refl _ _), Out.here o rep (rit_zipL hr hr' hs hs')⟩⟩
def mEnum (mr : SM (List W)) : SM ItW := fun s S => (mr s S).bind fun ws S1 => match ws with
  | [w] => match itL w with
    | some a => .ok (.fix (zipW (rngW 0 a.length) a)) S1
    | _ => .bad
  | _ => .bad
theorem pim_enum {mr : SM (List W)} {p tpos : Pos} {elts : List Expr} {kk : Nat} (hm : X.mg "enumerate" = none) (ha : PAM X E [a] mr) (hg : Gl X "enumerate" := by rfl) (hs : starEach [a] X.env = [(false, eval a X.env)] := by rfl) :
    PIM' X E (.Tuple elts kk tpos) (.Call (.Name "enumerate" p) [a] [] pos) (mEnum mr) :=
  pi_imp (pi_enum hg hm ha hs) fun σ H R h => tX.bind h fun ρ1 H1 ws xs s S1 rep env r o => by
    match ws, r, o with
    | [], _, o => exact o.elim
    | _ :: _ :: _, _, o => exact o.elim
    | [w], r, o =>
      obtain ⟨x, rfl, r1⟩ := r.one
      have o : Out X.K X.mg (RI X.K X.mg) E ρ1 H1 (match itL w with
        | some a => Res.ok (ItW.fix (zipW (rngW 0 a.length) a)) S1
        | _ => Res.bad) R := o
      cases e1 : itL w with
      | none => rw [e1] at o; exact o.elim
      | some us =>
        rw [e1] at o
        obtain ⟨p, vs, rfl, hr, hs⟩ := itL_of r1 e1
        exact ⟨_, _, rfl, hs _ _ (Ext.refl _ _), Out.here o rep (rit_enum hr hs)⟩
end

/-! ### for -/
def mForL (g : GM) (mb : SS) : List W → SS
  | [] => fun s S => .ok (.nx, s) S
  | w :: r => fun s S => (g w s S).bind fun s1 S1 => (mb s1 S1).bind fun p S2 => match p with
    | (.nx, s2) => mForL g mb r s2 S2
    | (.ct, s2) => mForL g mb r s2 S2
    | (.bk, s2) => .ok (.nx, s2) S2
    | (.rt w, s2) => .ok (.rt w, s2) S2
/-- over the list at l; so many turns at most -/
def mForN (g : GM) (mb : SS) (l : Nat) : Nat → Nat → SS
  | 0, _ => fun _ _ => .bad
  | n + 1, i => fun s S => match lstAt S l with
    | none => .bad
    | some ws => match ws[i]? with
      | none => .ok (.nx, s) S
      | some w => (g w s S).bind fun s1 S1 => (mb s1 S1).bind fun p S2 => match p with
        | (.nx, s2) => mForN g mb l n (i + 1) s2 S2
        | (.ct, s2) => mForN g mb l n (i + 1) s2 S2
        | (.bk, s2) => .ok (.nx, s2) S2
        | (.rt w, s2) => .ok (.rt w, s2) S2
def turns : Nat := 100000
def mForI (it : ItW) (g : GM) (mb : SS) : SS := match it with
  | .fix ws => mForL g mb ws
  | .dyn l => mForN g mb l turns 0
def mFor (mi : SM ItW) (g : GM) (mb : SS) : SS := fun s S => (mi s S).bind fun it S1 => mForI it g mb s S1
section
variable {X : Cx} {E : XK} {pos : Pos} {tg iter : Expr} {body : List Stmt} {mi : SM ItW} {g : GM} {mb : SS} {vs : List Nat}
/-- one turn, then the rest -/
theorem turn_of {ρ : RT} {H : Hp} {s : Env'} {S : Store} {D : Ends} {x : V} {σ : L2.St} {w : W} (rep : RepS X.K X.mg ρ H S) (env : REnv X.K X.mg ρ H s σ) (r : RW X.K X.mg ρ H w x) {rest : SS} {N : L2.St → Hp → Prop}
    (o : OutS X.K X.mg E ρ H ((g w s S).bind fun s1 S1 => (mb s1 S1).bind fun p S2 => match p with
      | (.nx, s2) => rest s2 S2
      | (.ct, s2) => rest s2 S2
      | (.bk, s2) => .ok (.nx, s2) S2
      | (.rt w, s2) => .ok (.rt w, s2) S2) D)
    (hN : ∀ ρ' H' σ' s' S', Ext ρ H ρ' H' → RepS X.K X.mg ρ' H' S' → REnv X.K X.mg ρ' H' s' σ' → OutS X.K X.mg E ρ' H' (rest s' S') D → N σ' H') :
    tG X E vs g x σ H fun σ2 H2 => tS X E mb { D with nx := N, ct := N, bk := D.nx } σ2 H2 := by
  refine ⟨ρ, s, S, w, rep, env, r, OutS.bind o fun ρ1 H1 s1 σ1 S1 e1 rep1 hh o1 => ⟨ρ1, s1, S1, rep1, hh.1, ?_⟩⟩
  cases e : mb s1 S1 with
  | ok p S2 =>
    obtain ⟨f, s2⟩ := p
    rw [e] at o1
    cases f with
    | nx => exact fun ρ2 H2 σ2 x rep2 env2 => hN ρ2 H2 σ2 s2 S2 (e1.trans x) rep2 env2 (OutS.ext x o1)
    | ct => exact fun ρ2 H2 σ2 x rep2 env2 => hN ρ2 H2 σ2 s2 S2 (e1.trans x) rep2 env2 (OutS.ext x o1)
    | bk => exact o1
    | rt w => exact o1
  | exc c ns ws S2 => rw [e] at o1; exact o1
  | bad => rw [e] at o1; exact o1
theorem psm_for (hp : PassesOwn (model X.prog X.w) X.A X.env X.xe) (hc : X.calm = true) (hi : PIM' X E tg iter mi) (hg : PGM X E tg vs g) (hb : PSsM X E body mb) (hs : ∀ x, foldedSetIterable iter X.env x = pure x := by intro _; rfl) : PSM X E (.For tg iter body [] pos) (mFor mi g mb) :=
  ps_imp (ps_for hp hc hi hg hb hs) fun D σ H h => tS.bind h fun ρ1 H1 it J s S1 rep env r o => by
    cases it with
    | fix ws =>
      refine ⟨fun i m σ' H' => m = ws.length - i ∧ i ≤ ws.length ∧ ∃ ρ' s' S', Ext ρ1 H1 ρ' H' ∧ RepS X.K X.mg ρ' H' S' ∧ REnv X.K X.mg ρ' H' s' σ' ∧ OutS X.K X.mg E ρ' H' (mForL g mb (ws.drop i) s' S') D, ⟨ws.length, by simp, Nat.zero_le _, ρ1, s, S1, Ext.refl _ _, rep, env, o⟩, ?_⟩
      rintro i m σ' H' ⟨rfl, hle, ρ', s', S', e, rep', env', o'⟩
      have rr := r ρ' H' S' e rep' i
      by_cases hlt : i < ws.length
      · have hw : ws[i]? = some ws[i] := List.getElem?_eq_getElem hlt
        obtain ⟨go, yl⟩ := rr.1 _ hw
        rw [List.drop_eq_getElem_cons hlt] at o'
        refine .inr ⟨go, fun σ2 H2 => ∃ ρ2 s2 S2, Ext ρ1 H1 ρ2 H2 ∧ RepS X.K X.mg ρ2 H2 S2 ∧ REnv X.K X.mg ρ2 H2 s2 σ2 ∧ OutS X.K X.mg E ρ2 H2 (mForL g mb (ws.drop (i + 1)) s2 S2) D, fun σ2 H2 h2 => ⟨ws.length - (i + 1), by omega, rfl, hlt, h2⟩, fun x H2 hy => ?_⟩
        obtain ⟨e2, rep2, r2⟩ := yl x H2 hy
        exact turn_of rep2 (env'.ext e2) r2 (OutS.ext e2 o') fun ρ3 H3 σ3 s3 S3 e3 rep3 env3 o3 => ⟨ρ3, s3, S3, (e.trans e2).trans e3, rep3, env3, o3⟩
      · have hi : ws.length = i := by omega
        rw [List.drop_eq_nil_of_le (Nat.le_of_eq hi)] at o'
        exact .inl ⟨rr.2 hi, OutS.nx o' rep' env'⟩
    | dyn l =>
      obtain ⟨p, hl, rfl⟩ := r
      refine ⟨fun i m σ' H' => ∃ ρ' s' S', Ext ρ1 H1 ρ' H' ∧ RepS X.K X.mg ρ' H' S' ∧ REnv X.K X.mg ρ' H' s' σ' ∧ OutS X.K X.mg E ρ' H' (mForN g mb l m i s' S') D, ⟨turns, ρ1, s, S1, Ext.refl _ _, rep, env, o⟩, ?_⟩
      rintro i m σ' H' ⟨ρ', s', S', e, rep', env', o'⟩
      cases m with
      | zero => exact o'.elim
      | succ m =>
        unfold mForN at o'
        cases e1 : lstAt S' l with
        | none => rw [e1] at o'; exact o'.elim
        | some us =>
          rw [e1] at o'
          obtain ⟨vs', h1, h2⟩ := lstAt_of rep' (e.pre _ _ hl) e1
          dsimp only at o'
          cases e2 : us[i]? with
          | none =>
            rw [e2] at o'
            have hle : vs'.length ≤ i := by rw [← h2.length]; exact List.getElem?_eq_none_iff.mp e2
            exact .inl ⟨⟨vs', .inl (.inl h1), hle⟩, OutS.nx o' rep' env'⟩
          | some w =>
            rw [e2] at o'
            obtain ⟨v, g1, g2⟩ := h2.get e2
            refine .inr ⟨⟨vs', v, .inl (.inl h1), g1⟩, fun σ2 H2 => ∃ ρ2 s2 S2, Ext ρ1 H1 ρ2 H2 ∧ RepS X.K X.mg ρ2 H2 S2 ∧ REnv X.K X.mg ρ2 H2 s2 σ2 ∧ OutS X.K X.mg E ρ2 H2 (mForN g mb l m (i + 1) s2 S2) D, fun σ2 H2 h2 => ⟨m, Nat.lt_succ_self m, h2⟩, fun x H2 hy => ?_⟩
            obtain ⟨rfl, hy⟩ := hy
            have ev : v = x := Option.some.inj (g1.symm.trans (hy vs' (.inl (.inl h1))))
            subst ev
            exact turn_of rep' env' g2 o' fun ρ3 H3 σ3 s3 S3 e3 rep3 env3 o3 => ⟨ρ3, s3, S3, e.trans e3, rep3, env3, o3⟩
end

/-! ### comprehensions -/
/-- no exception here -/
def nox {α : Type} (r : Res α) : Res α := match r with
  | .exc _ _ _ _ => .bad
  | r => r
def mLcT (g : GM) (t : SM Bool) (e : SM W) (s0 : Env') (w : W) (acc : List W) (S : Store) : Res (List W) := (nox (g w s0 S)).bind fun s1 S1 => (nox (t s1 S1)).bind fun b S2 => if b = true then (nox (e s1 S2)).bind fun y S3 => if acc.length < lim then .ok (acc ++ [y]) S3 else .bad else .ok acc S2
def mLcL (g : GM) (t : SM Bool) (e : SM W) (s0 : Env') : List W → List W → Store → Res (List W)
  | [], acc, S => .ok acc S
  | w :: r, acc, S => (mLcT g t e s0 w acc S).bind fun acc S => mLcL g t e s0 r acc S
def mLcN (g : GM) (t : SM Bool) (e : SM W) (s0 : Env') (l : Nat) : Nat → Nat → List W → Store → Res (List W)
  | 0, _, _, _ => .bad
  | n + 1, i, acc, S => match lstAt S l with
    | none => .bad
    | some ws => match ws[i]? with
      | none => .ok acc S
      | some w => (mLcT g t e s0 w acc S).bind fun acc S => mLcN g t e s0 l n (i + 1) acc S
def mLcI (it : ItW) (g : GM) (t : SM Bool) (e : SM W) (s0 : Env') (S : Store) : Res (List W) := match it with
  | .fix ws => mLcL g t e s0 ws [] S
  | .dyn l => mLcN g t e s0 l turns 0 [] S
def wipeW (s : Env') : List Nat → Env'
  | [] => s
  | v :: vs => (wipeW s vs).set v none
def mLc (mi : SM ItW) (vs : List Nat) (g : GM) (t : SM Bool) (e : SM W) : SM W := fun s S => (mi s S).bind fun it S1 => (mLcI it g t e (wipeW s vs) S1).bind fun acc S2 => .ok (.lst acc) S2
/-- .. where the list will be changed later -/
def mLcR (mi : SM ItW) (vs : List Nat) (g : GM) (t : SM Bool) (e : SM W) : SM W := fun s S => (mi s S).bind fun it S1 => (mLcI it g t e (wipeW s vs) S1).bind fun acc S2 => .ok (.ref S2.length) (S2 ++ [.lst acc])
section
variable {K : PySem.W.Frag} {mg : Str → Option Value} {ρ ρ' : RT} {H H' : Hp} {S : Store}
theorem env_wipe {s : Env'} {σ : L2.St} (h : REnv K mg ρ H s σ) : ∀ vs : List Nat, REnv K mg ρ H (wipeW s vs) (wipe σ vs)
  | [] => h
  | v :: vs => by
    have ih := env_wipe h vs
    unfold wipeW wipe
    refine ⟨by rw [List.length_set, List.length_set]; exact ih.len, fun i w hw => ?_⟩
    by_cases e : v = i
    · subst e
      by_cases hv : v < (wipeW s vs).length
      · rw [List.getElem?_set_self hv] at hw; cases hw
      · rw [List.getElem?_eq_none (by rw [List.length_set]; omega)] at hw; cases hw
    · rw [List.getElem?_set_ne e] at hw
      obtain ⟨x, h1, h2⟩ := ih.look i w hw
      exact ⟨x, by rw [List.getElem?_set_ne e]; exact h1, h2⟩
theorem wipe_wipe {σ : L2.St} {vs : List Nat} : ∀ {us : List Nat}, (∀ u ∈ us, u ∈ vs) → wipe (wipe σ us) vs = wipe σ vs
  | [], _ => rfl
  | u :: us, h => by
    show wipe ((wipe σ us).set u none) vs = _
    rw [wipe_set (h u List.mem_cons_self), wipe_wipe fun x hx => h x (List.mem_cons_of_mem _ hx)]
/-- fewer things in flux -/
theorem Fx.less {a : Addr} {o : HO} {t : List Addr} (h : Fx ρ H a o) (ht : ∀ b, b ∈ t → b ∈ ρ.t) : Fx ⟨ρ.r, t⟩ H a o := ⟨h.1, h.2.1, fun m => h.2.2 (ht a m)⟩
mutual
theorem RW.less {t : List Addr} (ht : ∀ b, b ∈ t → b ∈ ρ.t) : ∀ {w : W} {v : V}, RW K mg ρ H w v → RW K mg ⟨ρ.r, t⟩ H w v
  | _, _, .non => .non
  | _, _, .bl b => .bl b
  | _, _, .int b => .int b
  | _, _, .str b => .str b
  | _, _, .ty b => .ty b
  | _, _, .gl h => .gl h
  | _, _, .ref h => .ref h
  | _, _, .tup h r => .tup (h.imp (fun z => z.less ht) id) (RWs.less ht r)
  | _, _, .lst h r => .lst (h.less ht) (RWs.less ht r)
  | _, _, .flst h r => .flst (h.imp (fun ⟨o, z⟩ => ⟨o, z.less ht⟩) id) (RWs.less ht r)
  | _, _, .dic h hl r => .dic (h.less ht) hl (RWs.less ht r)
  | _, _, .ins hc h hl r => .ins hc (h.less ht) hl (RWs.less ht r)
theorem RWs.less {t : List Addr} (ht : ∀ b, b ∈ t → b ∈ ρ.t) : ∀ {ws : List W} {vs : List V}, RWs K mg ρ H ws vs → RWs K mg ⟨ρ.r, t⟩ H ws vs
  | _, _, .nil => .nil
  | _, _, .cons h r => .cons (RW.less ht h) (RWs.less ht r)
end
theorem RO.less {t : List Addr} (ht : ∀ b, b ∈ t → b ∈ ρ.t) {a : Addr} {o : Ob} (h : RO K mg ρ H a o) : RO K mg ⟨ρ.r, t⟩ H a o := by
  cases h with
  | lst h r => exact .lst h (r.less ht)
  | dic h hl r => exact .dic h hl (r.less ht)
  | ins hc h hl r => exact .ins hc h hl (r.less ht)
theorem RepS.less {t : List Addr} (ht : ∀ b, b ∈ t → b ∈ ρ.t) (R : RepS K mg ρ H S) : RepS K mg ⟨ρ.r, t⟩ H S :=
  ⟨R.len, R.nd, fun l o hl => let ⟨a, h1, h2⟩ := R.ob l o hl; ⟨a, h1, h2.less ht⟩, fun a m => R.tk a (ht a m)⟩
/-- what is in flux is changed -/
theorem ext_flux {D : Addr} {o : HO} (hD : D ∈ ρ.t) : (∀ {a : Addr} {u : HO}, Fx ρ H a u → Fx ρ (upd H D o) a u) := fun {a u} h => ⟨by rw [upd_ne fun z : a = D => h.2.2 (by rw [z]; exact hD)]; exact h.1, h.2⟩
mutual
theorem RW.flux {D : Addr} {o : HO} (hD : D ∈ ρ.t) : ∀ {w : W} {v : V}, RW K mg ρ H w v → RW K mg ρ (upd H D o) w v
  | _, _, .non => .non
  | _, _, .bl b => .bl b
  | _, _, .int b => .int b
  | _, _, .str b => .str b
  | _, _, .ty b => .ty b
  | _, _, .gl h => .gl h
  | _, _, .ref h => .ref h
  | _, _, .tup h r => .tup (h.imp (fun z => ext_flux hD z) id) (RWs.flux hD r)
  | _, _, .lst h r => .lst (ext_flux hD h) (RWs.flux hD r)
  | _, _, .flst h r => .flst (h.imp (fun ⟨o, z⟩ => ⟨o, ext_flux hD z⟩) id) (RWs.flux hD r)
  | _, _, .dic h hl r => .dic (ext_flux hD h) hl (RWs.flux hD r)
  | _, _, .ins hc h hl r => .ins hc (ext_flux hD h) hl (RWs.flux hD r)
theorem RWs.flux {D : Addr} {o : HO} (hD : D ∈ ρ.t) : ∀ {ws : List W} {vs : List V}, RWs K mg ρ H ws vs → RWs K mg ρ (upd H D o) ws vs
  | _, _, .nil => .nil
  | _, _, .cons h r => .cons (RW.flux hD h) (RWs.flux hD r)
end
theorem RepS.flux {D : Addr} {o : HO} (hD : D ∈ ρ.t) (R : RepS K mg ρ H S) : RepS K mg ρ (upd H D o) S := by
  have ne : ∀ a, a ∈ ρ.r → a ≠ D := fun a m z => (R.tk D hD).2 (z ▸ m)
  refine ⟨R.len, R.nd, fun l ob hl => ?_, fun a m => ⟨?_, (R.tk a m).2⟩⟩
  · obtain ⟨a, h1, h2⟩ := R.ob l ob hl
    have hne := ne a (List.mem_of_getElem? h1)
    refine ⟨a, h1, ?_⟩
    cases h2 with
    | lst h r => exact .lst ((upd_ne hne).trans h) (r.flux hD)
    | dic h hl' r => exact .dic ((upd_ne hne).trans h) hl' (r.flux hD)
    | ins hc h hl' r => exact .ins hc ((upd_ne hne).trans h) hl' (r.flux hD)
  · by_cases z : a = D
    · subst z; rw [upd_same]; simp
    · rw [upd_ne z]; exact (R.tk a m).1
/-- a new thing in flux -/
theorem RepS.more {D : Addr} {o : HO} (hD : H D = none) (R : RepS K mg ρ H S) : Ext ρ H ⟨ρ.r, D :: ρ.t⟩ (upd H D o) ∧ RepS K mg ⟨ρ.r, D :: ρ.t⟩ (upd H D o) S := by
  have np := R.fresh hD
  have e : Ext ρ H ⟨ρ.r, D :: ρ.t⟩ (upd H D o) := ⟨fun _ _ h => h, fun b m => List.mem_cons_of_mem _ m, fun b m => (List.mem_cons.mp m).elim (fun z => .inr (z ▸ hD)) .inl, fun b u hb _ => by rw [upd_ne (ne_of_none hb hD)]; exact hb, fun _ h => .inl h, fun b m hb => by
    have n : b ≠ D := fun z => np.1 (z ▸ m)
    rw [upd_ne n]; exact hb⟩
  refine ⟨e, R.len, R.nd, fun l ob hl => ?_, fun a m => ?_⟩
  · obtain ⟨a, h1, h2⟩ := R.ob l ob hl
    exact ⟨a, h1, h2.ext e (upd_ne fun z => np.1 (z ▸ List.mem_of_getElem? h1))⟩
  · rcases List.mem_cons.mp m with z | z
    · subst z; exact ⟨by rw [upd_same]; simp, np.1⟩
    · exact ⟨by rw [upd_ne (fun q : a = D => np.2 (q ▸ z))]; exact (R.tk a z).1, (R.tk a z).2⟩
theorem Out.noxbind {α β γ δ : Type} {E : XK} {R : Rl β α} {R' : Rl δ γ} {ρ1 ρ3 : RT} {H1 H3 : Hp} {r : Res α} {k : α → Store → Res γ} {Q : δ → Hp → Prop} {Z : β → Hp → Prop} (h : Out K mg R' E ρ1 H1 ((nox r).bind k) Q)
    (f : ∀ ρ4 H4 a b S4, Ext ρ3 H3 ρ4 H4 → RepS K mg ρ4 H4 S4 → R ρ4 H4 a b → Out K mg R' E ρ1 H1 (k a S4) Q → Z b H4) : Out K mg R E0 ρ3 H3 r Z := by
  cases r with
  | ok w S => exact fun ρ4 H4 v e rep rw => f ρ4 H4 w v S e rep rw h
  | exc c ns ws S => exact h.elim
  | bad => exact h
end
theorem Res.bind_bind {α β γ : Type} (r : Res α) (k : α → Store → Res β) (l : β → Store → Res γ) : (r.bind k).bind l = r.bind fun a S => (k a S).bind l := by cases r <;> rfl
section
variable {X : Cx} {E : XK} {pos : Pos} {tg iter elt : Expr} {ifs : List Expr} {scope : Scope} {own : List (Str × Nat)} {mi : SM ItW} {g : GM} {t : SM Bool} {me : SM W} {vs : List Nat}
/-- one turn of a comprehension, the list so far at D -/
theorem lcT_of {ρ1 ρ : RT} {H1 H : Hp} {s0 : Env'} {σ : L2.St} {D : Addr} {acc : List W} {accV : List V} {S : Store} {w : W} {x : V} {γ δ : Type} {R' : Rl δ γ} {k : List W → Store → Res γ} {Q : δ → Hp → Prop} {Nx : Hp → Prop}
    (rep : RepS X.K X.mg ρ H S) (hD : D ∈ ρ.t) (env : REnv X.K X.mg ρ H s0 (wipe σ vs)) (r : RW X.K X.mg ρ H w x) (hd : H D = some (.lst accV)) (ra : RWs X.K X.mg ρ H acc accV)
    (o : Out X.K X.mg R' E ρ1 H1 ((mLcT g t me s0 w acc S).bind k) Q)
    (hN : ∀ ρ' H' acc' accV' S', (∃ H2, Ext ρ H ρ' H2 ∧ ∃ u, H' = upd H2 D u ∨ H' = H2) → RepS X.K X.mg ρ' H' S' → H' D = some (.lst accV') → RWs X.K X.mg ρ' H' acc' accV' → Out X.K X.mg R' E ρ1 H1 (k acc' S') Q → Nx H') :
    tG X E0 vs g x (wipe σ vs) H fun σ2 H2 => wipe σ2 vs = wipe σ vs ∧ tT X E0 t σ2 H2 fun b H3 => if b = true then tE X E0 me σ2 H3 fun y H4 => ∃ acc, H4 D = some (.lst acc) ∧ acc.length < sizeLine ∧ Nx (upd H4 D (.lst (acc ++ [y]))) else Nx H3 := by
  unfold mLcT at o
  rw [Res.bind_bind] at o
  refine ⟨ρ, s0, S, w, rep, env, r, Out.noxbind o fun ρ2 H2 s1 σ1 S2 e2 rep2 hh o2 => ⟨hh.2.trans (wipe_wipe fun _ h => h), ρ2, s1, S2, rep2, hh.1, ?_⟩⟩
  rw [Res.bind_bind] at o2
  refine Out.noxbind o2 fun ρ3 H3 b b' S3 e3 rep3 rb o3 => ?_
  cases rb
  have nr : D ∉ ρ.r := (rep.tk D hD).2
  have n2 : D ∉ ρ2.r := e2.not hd nr
  have hd2 := e2.keep _ _ hd nr
  have n3 : D ∉ ρ3.r := e3.not hd2 n2
  have hd3 := e3.keep _ _ hd2 n2
  have hD3 := e3.sub _ (e2.sub _ hD)
  cases b with
  | false =>
    rw [if_neg Bool.false_ne_true] at o3 ⊢
    exact hN ρ3 H3 acc accV S3 ⟨H3, e2.trans e3, .lst [], .inr rfl⟩ rep3 hd3 ((ra.ext e2).ext e3) o3
  | true =>
    rw [if_pos rfl] at o3 ⊢
    rw [Res.bind_bind] at o3
    refine ⟨ρ3, s1, S3, rep3, hh.1.ext e3, Out.noxbind o3 fun ρ4 H4 y y' S4 e4 rep4 r4 o4 => ?_⟩
    have hd4 := e4.keep _ _ hd3 n3
    have hD4 := e4.sub _ hD3
    have ra4 := (((ra.ext e2).ext e3).ext e4)
    split at o4
    · rename_i hz
      refine ⟨accV, hd4, by rw [← ra.length]; exact lim_lt hz, hN ρ4 _ (acc ++ [y]) (accV ++ [y']) S4 ⟨H4, (e2.trans e3).trans e4, _, .inl rfl⟩ (rep4.flux hD4) upd_same ((ra4.append (.cons r4 .nil)).flux hD4) o4⟩
    · exact o4.elim
theorem lc_of {mk : List W → Store → Res W} {σ : L2.St} {H : Hp} {Q : VK}
    (fin : ∀ (ρ1 ρ : RT) (H1 H : Hp) (D : Addr) (acc : List W) (accV : List V) (S : Store), (∀ a, a ∈ ρ1.t → a ∈ ρ.t) → H1 D = none → Ext ρ1 H1 ρ H → RepS X.K X.mg ρ H S → D ∈ ρ.t → H D = some (.lst accV) → RWs X.K X.mg ρ H acc accV → RepS X.K X.mg ⟨ρ.r, ρ1.t⟩ H S → D ∉ ρ1.t → Out X.K X.mg (RW X.K X.mg) E ρ1 H1 (mk acc S) Q → Q (.ref D) H)
    (h : tE X E (fun s S => (mi s S).bind fun it S1 => (mLcI it g t me (wipeW s vs) S1).bind mk) σ H Q) : tLc (tX X.K X.mg (RI X.K X.mg) E mi) (tG X E0 vs g) (tT X E0 t) (tE X E0 me) vs σ H Q :=
  tX.bind h fun ρ1 H1 it J s S1 rep env r o => fun D hD => by
    have np := rep.fresh hD
    obtain ⟨e0, rep0⟩ := rep.more (o := .lst []) hD
    -- the state behind some turns
    have go : ∀ {ρ ρ' : RT} {H H' : Hp} {accV : List V}, Ext ρ1 H1 ρ H → D ∉ ρ.r → (∃ H2, Ext ρ H ρ' H2 ∧ ∃ u, H' = upd H2 D u ∨ H' = H2) → Ext ρ1 H1 ρ' H' := fun {ρ ρ' H H' accV} e nr ⟨H2, e2, u, hu⟩ => by
      rcases hu with rfl | rfl
      · have e3 := e.trans e2
        exact ⟨e3.pre, e3.sub, e3.newt, fun b o hb n => by rw [upd_ne (ne_of_none hb hD)]; exact e3.keep b o hb n, e3.new, fun b m hb => by
          by_cases z : b = D
          · subst z; rw [upd_same]; simp
          · rw [upd_ne z]; exact e3.still b m hb⟩
      · exact e.trans e2
    cases it with
    | fix ws =>
      refine ⟨fun i m H' => m = ws.length - i ∧ i ≤ ws.length ∧ ∃ ρ acc accV S, Ext ρ1 H1 ρ H' ∧ RepS X.K X.mg ρ H' S ∧ D ∈ ρ.t ∧ H' D = some (.lst accV) ∧ RWs X.K X.mg ρ H' acc accV ∧ Out X.K X.mg (RW X.K X.mg) E ρ1 H1 ((mLcL g t me (wipeW s vs) (ws.drop i) acc S).bind mk) Q,
        ⟨ws.length, by simp, Nat.zero_le _, ⟨ρ1.r, D :: ρ1.t⟩, [], [], S1, e0, rep0, List.mem_cons_self, upd_same, .nil, o⟩, ?_⟩
      rintro i m H' ⟨rfl, hle, ρ, acc, accV, S, e, rep', hDt, hd, ra, o'⟩
      have rr := r ρ H' S e rep' i
      by_cases hlt : i < ws.length
      · have hw : ws[i]? = some ws[i] := List.getElem?_eq_getElem hlt
        obtain ⟨go1, yl⟩ := rr.1 _ hw
        rw [List.drop_eq_getElem_cons hlt] at o'
        unfold mLcL at o'
        rw [Res.bind_bind] at o'
        refine .inr ⟨go1, fun H2 => ∃ ρ acc accV S, Ext ρ1 H1 ρ H2 ∧ RepS X.K X.mg ρ H2 S ∧ D ∈ ρ.t ∧ H2 D = some (.lst accV) ∧ RWs X.K X.mg ρ H2 acc accV ∧ Out X.K X.mg (RW X.K X.mg) E ρ1 H1 ((mLcL g t me (wipeW s vs) (ws.drop (i + 1)) acc S).bind mk) Q, fun H2 h2 => ⟨ws.length - (i + 1), by omega, rfl, hlt, h2⟩, fun x H2 hy => ?_⟩
        obtain ⟨e2, rep2, r2⟩ := yl x H2 hy
        have nr := (rep'.tk D hDt).2
        refine lcT_of rep2 hDt ((env_wipe env vs).ext (e.trans e2)) r2 (e2.keep _ _ hd nr) (ra.ext e2) o' fun ρ3 H3 acc3 accV3 S3 hx rep3 hd3 ra3 o3 => ?_
        refine ⟨ρ3, acc3, accV3, S3, go (accV := []) (e.trans e2) nr hx, rep3, ?_, hd3, ra3, o3⟩
        obtain ⟨Hx, ex, _⟩ := hx
        exact ex.sub _ hDt
      · have hi : ws.length = i := by omega
        rw [List.drop_eq_nil_of_le (Nat.le_of_eq hi)] at o'
        exact .inl ⟨rr.2 hi, fin ρ1 ρ H1 H' D acc accV S e.sub hD e rep' hDt hd ra (rep'.less e.sub) np.2 o'⟩
    | dyn l =>
      obtain ⟨p, hl, rfl⟩ := r
      refine ⟨fun i m H' => ∃ ρ acc accV S, Ext ρ1 H1 ρ H' ∧ RepS X.K X.mg ρ H' S ∧ D ∈ ρ.t ∧ H' D = some (.lst accV) ∧ RWs X.K X.mg ρ H' acc accV ∧ Out X.K X.mg (RW X.K X.mg) E ρ1 H1 ((mLcN g t me (wipeW s vs) l m i acc S).bind mk) Q,
        ⟨turns, ⟨ρ1.r, D :: ρ1.t⟩, [], [], S1, e0, rep0, List.mem_cons_self, upd_same, .nil, o⟩, ?_⟩
      rintro i m H' ⟨ρ, acc, accV, S, e, rep', hDt, hd, ra, o'⟩
      cases m with
      | zero => exact o'.elim
      | succ m =>
        unfold mLcN at o'
        cases e1 : lstAt S l with
        | none => rw [e1] at o'; exact o'.elim
        | some us =>
          rw [e1] at o'
          obtain ⟨vs', h1, h2⟩ := lstAt_of rep' (e.pre _ _ hl) e1
          dsimp only at o'
          cases e2 : us[i]? with
          | none =>
            rw [e2] at o'
            have hle : vs'.length ≤ i := by rw [← h2.length]; exact List.getElem?_eq_none_iff.mp e2
            exact .inl ⟨⟨vs', .inl (.inl h1), hle⟩, fin ρ1 ρ H1 H' D acc accV S e.sub hD e rep' hDt hd ra (rep'.less e.sub) np.2 o'⟩
          | some w =>
            rw [e2] at o'
            dsimp only at o'
            rw [Res.bind_bind] at o'
            obtain ⟨v, g1, g2⟩ := h2.get e2
            refine .inr ⟨⟨vs', v, .inl (.inl h1), g1⟩, fun H2 => ∃ ρ acc accV S, Ext ρ1 H1 ρ H2 ∧ RepS X.K X.mg ρ H2 S ∧ D ∈ ρ.t ∧ H2 D = some (.lst accV) ∧ RWs X.K X.mg ρ H2 acc accV ∧ Out X.K X.mg (RW X.K X.mg) E ρ1 H1 ((mLcN g t me (wipeW s vs) l m (i + 1) acc S).bind mk) Q, fun H2 h2 => ⟨m, Nat.lt_succ_self m, h2⟩, fun x H2 hy => ?_⟩
            obtain ⟨rfl, hy⟩ := hy
            have ev : v = x := Option.some.inj (g1.symm.trans (hy vs' (.inl (.inl h1))))
            subst ev
            have nr := (rep'.tk D hDt).2
            refine lcT_of rep' hDt ((env_wipe env vs).ext e) g2 hd ra o' fun ρ3 H3 acc3 accV3 S3 hx rep3 hd3 ra3 o3 => ?_
            refine ⟨ρ3, acc3, accV3, S3, go (accV := []) e nr hx, rep3, ?_, hd3, ra3, o3⟩
            obtain ⟨Hx, ex, _⟩ := hx
            exact ex.sub _ hDt
def PTsM (X : Cx) (E : XK) (ifs : List Expr) (m : SM Bool) : Prop := PTs X ifs (tT X E m)
def mYes : SM Bool := fun _ S => .ok true S
theorem pts_imp {X : Cx} {e : List Expr} {t t' : TT} (h : PTs X e t) (f : ∀ σ H Q, t' σ H Q → t σ H Q) : PTs X e t' := ⟨fun pins s σ H Q I q => h.run pins s σ H Q I (f σ H Q q)⟩
theorem ptsm_nil : PTsM X E [] mYes := pts_imp pts_nil fun σ H Q ⟨ρ, s, S, rep, env, o⟩ => Out.here o rep rfl
theorem ptsm_one {c : Expr} {nc : SM Bool} (h : PTM X E c nc) : PTsM X E [c] nc := pts_one h
abbrev slots (own : List (Str × Nat)) : List Nat := own.map (·.2)
/-- the block's part of a comprehension, at every entry -/
structure Blk (X : Cx) (scope : Scope) (tg : Expr) (ifs : List Expr) (elt : Expr) (vs : List Nat) (g : GM) (t : SM Bool) (me : SM W) : Prop where
  g : ∀ (s : Shared) (H : Hp) (C : Addr) (cl : List (Str × Addr)) (fp : List Addr), PGM (X.blk s H scope (compEnvC scope cl C X.env) fp) E0 tg vs g
  t : ∀ (s : Shared) (H : Hp) (C : Addr) (cl : List (Str × Addr)) (fp : List Addr), PTsM (X.blk s H scope (compEnvC scope cl C X.env) fp) E0 ifs t
  e : ∀ (s : Shared) (H : Hp) (C : Addr) (cl : List (Str × Addr)) (fp : List Addr), PM (X.blk s H scope (compEnvC scope cl C X.env) fp) E0 elt me
theorem lc_fin {ρ1 ρ : RT} {H1 H : Hp} {D : Addr} {acc : List W} {accV : List V} {S : Store} {Q : VK} (hD : H1 D = none) (e : Ext ρ1 H1 ρ H) (rep : RepS X.K X.mg ρ H S) (hDt : D ∈ ρ.t) (hd : H D = some (.lst accV)) (ra : RWs X.K X.mg ρ H acc accV) (rep2 : RepS X.K X.mg ⟨ρ.r, ρ1.t⟩ H S) (nt : D ∉ ρ1.t)
    (o : Out X.K X.mg (RW X.K X.mg) E ρ1 H1 (.ok (.lst acc) S) Q) : Q (.ref D) H :=
  o ⟨ρ.r, ρ1.t⟩ H (.ref D) ⟨e.pre, fun _ h => h, fun _ h => .inl h, e.keep, e.new, e.still⟩ rep2 (.lst ⟨hd, (rep.tk D hDt).2, nt⟩ (ra.less e.sub))
theorem pm_lc (hc : X.calm = true) (hN : X.N.Nodup) (hi : PIM' X E tg iter mi) (ok : blkC X.N X.env.scope scope own = true) (hb : Blk X scope tg ifs elt (slots own) g t me) (hs : ∀ x, foldedSetIterable iter X.env x = pure x := by intro _; rfl) :
    PM X E (.ListComp elt [⟨tg, iter, ifs, 0⟩] scope pos) (mLc mi (slots own) g t me) :=
  pe_imp (pe_lc (g := tG X E0 (slots own) g) (tt := tT X E0 t) (te := tE X E0 me) hc hN hi (blkOk_by ok) hb.g hb.t hb.e hs) fun σ H Q h => lc_of (fun ρ1 ρ H1 H D acc accV S _ hD e rep hDt hd ra rep2 nt o => lc_fin hD e rep hDt hd ra rep2 nt o) h
/-- y = [..] -/
theorem psm_setLc (i : Nat) {y : Str} {py spos : Pos} (hc : X.calm = true) (hN : X.N.Nodup) (hi : PIM' X E tg iter mi) (ok : blkC X.N X.env.scope scope own = true) (hb : Blk X scope tg ifs elt (slots own) g t me) (hy : X.N[i]? = some y := by rfl) (hyl : X.env.scope.names.lookup y = some .local := by rfl)
    (hsw : swapsWith (.ListComp elt [⟨tg, iter, ifs, 0⟩] scope pos) (some (.Name y py)) spos.line X.env = pure true := by exact sw_true rfl rfl rfl (by decide +kernel)) (hs : ∀ x, foldedSetIterable iter X.env x = pure x := by intro _; rfl) :
    PSM X E (.Assign [.Name y py] (.ListComp elt [⟨tg, iter, ifs, 0⟩] scope pos) spos) (mAsg (mLc mi (slots own) g t me) (gNm i)) :=
  ps_imp (ps_setLc (g := tG X E0 (slots own) g) (tt := tT X E0 t) (te := tE X E0 me) hc hN hy hyl hsw hi (blkOk_by ok) hb.g hb.t hb.e hs) fun D σ H ⟨ρ, s, S, rep, env, o⟩ => lc_of (E := E) (fun ρ1 ρ H1 H D acc accV S _ hD e rep hDt hd ra rep2 nt o => lc_fin hD e rep hDt hd ra rep2 nt o)
    ⟨ρ, s, S, rep, env, OutS.bind o fun ρ1 H1 w x S1 e1 rep1 r1 o1 => OutS.nx (s := s.set i (some w)) o1 rep1 ((env.ext e1).set i r1)⟩
end
end RL
end

section
set_option maxRecDepth 100000
set_option maxHeartbeats 2000000
namespace RL
open PySem PySem.Spec L2
open PyProof.Rows hiding St

/-! ### defs -/
/-- what a def is worth: a function of the arguments and the store -/
abbrev Fn := List W → Store → Res W
def spM (K : PySem.W.Frag) (mg : Str → Option Value) (n : Nat) (g : Fn) : Sp := fun vs H Q E => ∃ ρ S ws, RepS K mg ρ H S ∧ RWs K mg ρ H ws vs ∧ ws.length = n ∧ Out K mg (RW K mg) E ρ H (g ws S) Q
def startW (n : Nat) (ws : List W) : Env' := ws.map some ++ List.replicate (n - ws.length) none
/-- a body run at the arguments; n: the slots -/
def runB (n : Nat) (m : SS) : Fn := fun ws S => (m (startW n ws) S).bind fun p S1 => match p with
  | (.nx, _) => .ok .non S1
  | (.rt w, _) => .ok w S1
  | _ => .bad
abbrev FnM (P : Program) (w : World) (K : PySem.W.Frag) (mg : Str → Option Value) (base : Heap) (k : Nat) (f : Addr) (fd : FuncData) (ps : List Str) (n : Nat) (g : Fn) : Prop := FnOk P w K mg base (L2.CX P w) k f fd ps (spM K mg n g)
section
variable {P : Program} {w : World} {K : PySem.W.Frag} {mg : Str → Option Value} {base : Heap}
theorem env_start {ρ : RT} {H : Hp} {ws : List W} {vs : List V} {N : List Str} (r : RWs K mg ρ H ws vs) : REnv K mg ρ H (startW N.length ws) (L2.start N vs) := by
  have hl := r.length
  refine ⟨by simp [startW, L2.start, hl], fun i u hi => ?_⟩
  unfold startW at hi
  by_cases h : i < ws.length
  · rw [List.getElem?_append_left (by simpa using h), List.getElem?_map] at hi
    cases e : ws[i]? with
    | none => rw [e] at hi; cases hi
    | some u' =>
      rw [e] at hi
      cases (Option.some.inj (Option.some.inj hi) : u' = u)
      obtain ⟨v, h1, h2⟩ := r.get e
      refine ⟨v, ?_, h2⟩
      unfold L2.start
      rw [List.getElem?_append_left (by simpa [← hl] using h), List.getElem?_map, h1]
      rfl
  · rw [List.getElem?_append_right (by simpa using h), List.getElem?_replicate] at hi
    split at hi <;> cases hi
/-- a def, by its body -/
theorem fn_m {x qual : Str} {st : Stmt} {f : Addr} {fd : FuncData} {N ps : List Str} {k : Nat} {m : SS} (F : Fun K x qual st f fd) (Sc : FnScope N ps (defScope st))
    (hb : ∀ (cdv : Value) (A : Around) (outer : List Env) (s : Shared) (H : Hp) (E : XK), Room k (A.deeper (envOfC qual (defScope st) s.heap.objs.size f cdv)) → Takes (cxOf (L2.CX P w) P w K mg base N qual (defScope st) f cdv A outer s H E) (fun c d _ H => E c d H) → PSsM (cxOf (L2.CX P w) P w K mg base N qual (defScope st) f cdv A outer s H E) E (defBody st) m) :
    FnM P w K mg base (k + 1) f fd ps ps.length (runB N.length m) := by
  refine F.okX Sc (fun vs H Q E h => ?_) (fun cdv A outer s H vs Q E hr h => ⟨_, hb cdv A outer s H E hr (takes_of rfl rfl rfl rfl), ?_⟩)
  · obtain ⟨ρ, S, ws, rep, rs, hn, _⟩ := h
    rw [← rs.length]; exact hn
  · obtain ⟨ρ, S, ws, rep, rs, hn, o⟩ := h
    refine ⟨ρ, startW N.length ws, S, rep, env_start rs, ?_⟩
    unfold runB at o
    show OutS K mg E ρ H (m (startW N.length ws) S) _
    cases e : m (startW N.length ws) S with
    | ok p S1 =>
      obtain ⟨fl, s1⟩ := p
      rw [e] at o
      cases fl with
      | nx => exact fun ρ' H' σ' x rep' env' => o ρ' H' .non x rep' .non
      | rt u => exact o
      | bk => exact o.elim
      | ct => exact o.elim
    | exc c ns ws' S1 => rw [e] at o; exact o
    | bad => rw [e] at o; exact o
theorem fn_bad {f : Addr} {fd : FuncData} {ps : List Str} {k n : Nat} : FnM P w K mg base k f fd ps n (fun _ _ => .bad) :=
  ⟨fun vs H Q E ⟨_, _, _, _, _, _, o⟩ => o.elim, fun _ _ _ _ _ _ _ _ _ _ _ _ _ ⟨_, _, _, _, _, _, o⟩ => o.elim⟩
/-- the same def, another function that says no more -/
theorem FnM.of {f : Addr} {fd : FuncData} {ps : List Str} {k n : Nat} {g g' : Fn} (F : FnM P w K mg base k f fd ps n g) (h : ∀ ws S, g' ws S = .bad ∨ g' ws S = g ws S) : FnM P w K mg base k f fd ps n g' :=
  F.imp fun vs H Q E ⟨ρ, S, ws, rep, rs, hn, o⟩ => ⟨ρ, S, ws, rep, rs, hn, by
    rcases h ws S with e | e
    · rw [e] at o; exact o.elim
    · rw [← e]; exact o⟩
end
section
variable {X : Cx} {E : XK} {pos : Pos} {a : Expr} {es : List Expr} {mr : SM (List W)} {k n : Nat} {f : Addr} {fd : FuncData} {ps : List Str} {g : Fn} {x : Str} {p : Pos}
theorem passM (tk : Takes X (fun c d _ H => E c d H)) : Passes (L2.CX X.prog X.w) X E := passes_call tk fun _ _ _ _ h => h
theorem call_sp {σ : L2.St} {H : Hp} {Q : VK} (h : tE X E (mAp g mr) σ H Q) (hn : ∀ s S ws S', mr s S = .ok ws S' → ws.length = n) : tCall (spM X.K X.mg n g) [] E (tA X E mr) σ H Q := by
  obtain ⟨ρ, s, S, rep, env, o⟩ := h
  refine ⟨ρ, s, S, rep, env, ?_⟩
  unfold mAp at o
  cases e : mr s S with
  | ok ws S1 =>
    rw [e] at o
    exact fun ρ1 H1 vs x rep1 r => ⟨ρ1, S1, ws, rep1, by rw [List.append_nil]; exact r, hn _ _ _ _ e, Out.ext x o⟩
  | exc c ns ws S1 => rw [e] at o; exact o
  | bad => rw [e] at o; exact o
/-- how many arguments -/
class Len (mr : SM (List W)) (n : outParam Nat) : Prop where
  len : ∀ s S ws S', mr s S = .ok ws S' → ws.length = n
theorem len_nil : Len mNil 0 := ⟨fun s S ws S' h => by cases h; rfl⟩
theorem len_cons {m : SM W} {mr : SM (List W)} {n : Nat} (h : Len mr n) : Len (mCons m mr) (n + 1) := ⟨fun s S ws S' e => by
  unfold mCons at e
  cases e1 : m s S with
  | ok w S1 =>
    rw [e1] at e
    have e : (mr s S1).bind (fun ws S2 => Res.ok (w :: ws) S2) = .ok ws S' := e
    cases e2 : mr s S1 with
    | ok us S2 =>
      rw [e2] at e
      cases e
      rw [List.length_cons, h.len _ _ _ _ e2]
    | exc c ns ws S2 => rw [e2] at e; cases e
    | bad => rw [e2] at e; cases e
  | exc c ns ws S1 => rw [e1] at e; cases e
  | bad => rw [e1] at e; cases e⟩
instance : Len mNil 0 := len_nil
instance {m : SM W} {mr : SM (List W)} {n : Nat} [h : Len mr n] : Len (mCons m mr) (n + 1) := len_cons h
/-- f(e, ..) -/
theorem pm_call [hl : Len mr n] (F : FnM X.prog X.w X.K X.mg X.base k f fd ps n g) (hr : Room k X.A) (hm : X.mg x = some (.ref f)) (hk : PySem.W.keepIn X.K (.ref f) = true) (hb : Binds X.K fd ps []) (tk : Takes X (fun c d _ H => E c d H)) (ha : PAM X E (a :: es) mr)
    (hg : Gl X x := by rfl) (hdb : (x == ("__debug__" : Str)) = false := by decide +kernel) (he : starEach (a :: es) X.env = (false, eval a X.env) :: starEach es X.env := by rfl) (hpl : (backTo pos (starEach es X.env)).any (·.1) = false := by rfl) : PM X E (.Call (.Name x p) (a :: es) [] pos) (mAp g mr) :=
  pe_imp (pe_call F hr hg hm hk hb .nil (passM tk) ha hdb he hpl) fun σ H Q h => call_sp h hl.len
theorem pm_call0 (F : FnM X.prog X.w X.K X.mg X.base k f fd ps 0 g) (hr : Room k X.A) (hm : X.mg x = some (.ref f)) (hk : PySem.W.keepIn X.K (.ref f) = true) (hb : Binds X.K fd ps []) (tk : Takes X (fun c d _ H => E c d H))
    (hg : Gl X x := by rfl) (hdb : (x == ("__debug__" : Str)) = false := by decide +kernel) : PM X E (.Call (.Name x p) [] [] pos) (mAp g mNil) :=
  pe_imp (pe_call0 F hr hg hm hk hb .nil (passM tk) hdb) fun σ H Q h => by
    obtain ⟨ρ, s, S, rep, env, o⟩ := h
    exact ⟨ρ, S, [], rep, .nil, rfl, o⟩

/-! ### methods of built-in types -/
variable {o : Expr} {mo : SM W} {T id : String} {name : Str} {apos : Pos}
def MethM (X : Cx) (E : XK) (T id : String) (g : W → List W → Store → Res W) : Prop := (∀ ρ S H w x ws, RepS X.K X.mg ρ H S → RW X.K X.mg ρ H w x → g w ws S ≠ .bad → tyV X.K T x H) ∧
  MtR X id (fun x vs H Q => ∃ ρ S w ws, RepS X.K X.mg ρ H S ∧ RW X.K X.mg ρ H w x ∧ RWs X.K X.mg ρ H ws vs ∧ Out X.K X.mg (RW X.K X.mg) E ρ H (g w ws S) Q)
end

/-! ### the law's end -/
theorem law_sp {K : PySem.W.Frag} {mg : Str → Option Value} {g : Fn} (hg : ∀ ns : List Int, ns.length ≤ 63 → ∃ S, g [.flst (ns.map W.int)] [] = .ok (.bl true) S) {H : Hp} {a : Addr} {ns : List Int} (hn : ns.length ≤ 63) (hO : Only H) (hS : SqL K H a (ns.map V.int)) :
    spM K mg 1 g [.ref a] H (fun v _ => v = .bl true) (fun _ _ _ => False) := by
  have intsW : ∀ ns : List Int, RWs K mg ⟨[], []⟩ H (ns.map W.int) (ns.map V.int) := fun ns => by
    induction ns with
    | nil => exact .nil
    | cons n r ih => exact .cons (.int n) ih
  refine ⟨⟨[], []⟩, [], [.flst (ns.map W.int)], ⟨rfl, List.nodup_nil, fun l o h => by simp at h, fun a h => by simp at h⟩, .cons (.flst ?_ (intsW ns)) .nil, rfl, ?_⟩
  · rcases hS with (h | ⟨o, h⟩) | h
    · rcases hO a with z | ⟨o, xs, z⟩
      · rw [z] at h; cases h
      · rw [z] at h; cases h
    · exact .inl ⟨o, h, by simp, by simp⟩
    · exact .inr h
  · obtain ⟨S, e⟩ := hg ns hn
    rw [e]
    intro ρ' H' v _ _ r
    cases r
    rfl
theorem cx_end {P : Program} {w : World} {H : Hp} {s : Shared} {e : Value} {s' : Shared} (h : L2.CX P w [] H s (fun _ _ _ => False) e s') : False := by
  obtain ⟨_, _, _, _, _, _, _, _, _, _, _, _, z⟩ := h
  exact z
end RL
namespace RL
open PySem PySem.Spec L2
open PyProof.Rows hiding St
/-! ### defs by their names -/
def FTx (K : PySem.W.Frag) (mg : Str → Option Value) (x : Str) (st : Stmt) (ps : List Str) : Prop := ∃ f fd, Fun K x x st f fd ∧ mg x = some (.ref f) ∧ Binds K fd ps []
/-- a def of the module that is worth g -/
def FnE (P : Program) (w : World) (K : PySem.W.Frag) (mg : Str → Option Value) (base : Heap) (k : Nat) (x : Str) (st : Stmt) (ps : List Str) (g : Fn) : Prop :=
  ∃ f fd, mg x = some (.ref f) ∧ Fun K x x st f fd ∧ Binds K fd ps [] ∧ FnM P w K mg base k f fd ps ps.length g
section
variable {P : Program} {w : World} {K : PySem.W.Frag} {mg : Str → Option Value} {base : Heap}
theorem fn_e {x : Str} {st : Stmt} {N ps : List Str} {k : Nat} {m : SS} (T : FTx K mg x st ps) (Sc : FnScope N ps (defScope st))
    (hb : ∀ (f : Addr) (cdv : Value) (A : Around) (outer : List Env) (s : Shared) (H : Hp) (E : XK), Room k (A.deeper (envOfC x (defScope st) s.heap.objs.size f cdv)) → Takes (cxOf (L2.CX P w) P w K mg base N x (defScope st) f cdv A outer s H E) (fun c d _ H => E c d H) → PSsM (cxOf (L2.CX P w) P w K mg base N x (defScope st) f cdv A outer s H E) E (defBody st) m) :
    FnE P w K mg base (k + 1) x st ps (runB N.length m) := by
  obtain ⟨f, fd, F, hm, hb'⟩ := T
  exact ⟨f, fd, hm, F, hb', fn_m F Sc (hb f)⟩
theorem fnE_bad {x : Str} {st : Stmt} {ps : List Str} {k : Nat} (T : FTx K mg x st ps) : FnE P w K mg base k x st ps (fun _ _ => .bad) := by
  obtain ⟨f, fd, F, hm, hb'⟩ := T
  exact ⟨f, fd, hm, F, hb', fn_bad⟩
theorem FnE.mono {x : Str} {st : Stmt} {ps : List Str} {j k : Nat} {g : Fn} (F : FnE P w K mg base j x st ps g) (h : j ≤ k) : FnE P w K mg base k x st ps g := by
  obtain ⟨f, fd, h1, h2, h3, h4⟩ := F
  exact ⟨f, fd, h1, h2, h3, h4.mono h⟩
theorem FnE.of {x : Str} {st : Stmt} {ps : List Str} {k : Nat} {g g' : Fn} (F : FnE P w K mg base k x st ps g) (h : ∀ ws S, g' ws S = .bad ∨ g' ws S = g ws S) : FnE P w K mg base k x st ps g' := by
  obtain ⟨f, fd, h1, h2, h3, h4⟩ := F
  exact ⟨f, fd, h1, h2, h3, FnM.of h4 h⟩
theorem ftx_mk {x : Str} {st : Stmt} {ps : List Str} {h : Heap} {f : Addr} {oc : Value} {od an : Option Addr} {sl : Array (Option Value)} {kV dc pm cd ct : Value} (X : K.In h) (G : h.Ns mainGlobals mg) (a : PySem.W.nsIn K mainGlobals x = some (some (.ref f)))
    (l : K.lookup f = some ⟨oc, od, .func (PySem.W.fnOf x x (defArgs st) (defBody st) (defScope st) .none kV dc pm an cd ct), sl⟩) (c : PySem.W.codeIn K cd x = true) (k : PySem.W.keepIn K (.ref f) = true)
    (hb : ∀ (kV doc pm : Value) (an : Option Addr) (cdv ct : Value) (us : List Value), us.length = ps.length → bindArgs (PySem.W.fnOf x x (defArgs st) (defBody st) (defScope st) .none kV doc pm an cdv ct) ⟨us, []⟩ = pure (ps.zip us)) : FTx K mg x st ps :=
  let F := fun_mk (st := st) l c k
  ⟨f, _, F, PySem.W.mg_of X G a, F.binds hb⟩
end
/-- the items at these places -/
def pIdx {α : Type} (idx : List Nat) (l : List α) : List α := idx.filterMap fun i => l[i]?
theorem pIdx_len {α : Type} {l : List α} : ∀ {idx : List Nat}, (∀ i ∈ idx, i < l.length) → (pIdx idx l).length = idx.length
  | [], _ => rfl
  | i :: r, h => by
    have ih := pIdx_len (l := l) (idx := r) fun j hj => h j (List.mem_cons_of_mem _ hj)
    have e : ∃ x, l[i]? = some x := ⟨_, List.getElem?_eq_getElem (h i List.mem_cons_self)⟩
    obtain ⟨x, e⟩ := e
    unfold pIdx at ih ⊢
    rw [List.filterMap_cons, e, List.length_cons, ih]
    rfl
theorem pIdx_vals {xs : List V} {us : List Value} (r : Vals xs us) : ∀ {idx : List Nat}, Vals (pIdx idx xs) (pIdx idx us)
  | [] => .nil
  | i :: t => by
    have ih := pIdx_vals r (idx := t)
    unfold pIdx at ih ⊢
    rw [List.filterMap_cons, List.filterMap_cons]
    cases e : xs[i]? with
    | none => rw [r.none_of e]; exact ih
    | some x =>
      obtain ⟨u, h1, h2⟩ := r.get e
      rw [h1]
      exact .cons h2 ih
theorem pIdx_rws {K : PySem.W.Frag} {mg : Str → Option Value} {ρ : RT} {H : Hp} {ws : List W} {xs : List V} (r : RWs K mg ρ H ws xs) : ∀ {idx : List Nat}, RWs K mg ρ H (pIdx idx ws) (pIdx idx xs)
  | [] => .nil
  | i :: t => by
    have ih := pIdx_rws r (idx := t)
    unfold pIdx at ih ⊢
    rw [List.filterMap_cons, List.filterMap_cons]
    cases e : ws[i]? with
    | none =>
      have : xs[i]? = none := List.getElem?_eq_none_iff.mpr (by rw [← r.length]; exact List.getElem?_eq_none_iff.mp e)
      rw [this]; exact ih
    | some x =>
      obtain ⟨u, h1, h2⟩ := r.get e
      rw [h1]
      exact .cons h2 ih
def PKM (X : Cx) (E : XK) (kws : List Keyword) (m : SM (List W)) : Prop := PK X kws (tA X E m)
def mCallK (idx : List Nat) (g : Fn) (mr mk : SM (List W)) : SM W := fun s S => (mr s S).bind fun us S1 => (mk s S1).bind fun ws S2 => g (pIdx idx (us ++ ws)) S2
section
variable {X : Cx} {E : XK} {pos : Pos} {a : Expr} {es : List Expr} {mr mk : SM (List W)} {k k' n : Nat} {g : Fn} {x : Str} {p : Pos} {st : Stmt} {ps : List Str} {kws : List Keyword}
theorem pm_callE [hl : Len mr n] (F : FnE X.prog X.w X.K X.mg X.base k x st ps g) (hr : Room k' X.A) (hk : k ≤ k') (tk : Takes X (fun c d _ H => E c d H)) (ha : PAM X E (a :: es) mr) (hn : n = ps.length := by rfl)
    (hg : Gl X x := by rfl) (hdb : (x == ("__debug__" : Str)) = false := by decide +kernel) (he : starEach (a :: es) X.env = (false, eval a X.env) :: starEach es X.env := by rfl) (hpl : (backTo pos (starEach es X.env)).any (·.1) = false := by rfl) : PM X E (.Call (.Name x p) (a :: es) [] pos) (mAp g mr) := by
  obtain ⟨f, fd, h1, h2, h3, h4⟩ := F
  subst hn
  exact pm_call h4 (hr.mono hk) h1 h2.kp h3 tk ha hg hdb he hpl
theorem pm_callE0 (F : FnE X.prog X.w X.K X.mg X.base k x st [] g) (hr : Room k' X.A) (hk : k ≤ k') (tk : Takes X (fun c d _ H => E c d H)) (hg : Gl X x := by rfl) (hdb : (x == ("__debug__" : Str)) = false := by decide +kernel) : PM X E (.Call (.Name x p) [] [] pos) (mAp g mNil) := by
  obtain ⟨f, fd, h1, h2, h3, h4⟩ := F
  exact pm_call0 h4 (hr.mono hk) h1 h2.kp h3 tk hg hdb
theorem pk_imp {t t' : TA} (h : PK X kws t) (f : ∀ σ H Q, t' σ H Q → t σ H Q) : PK X kws t' := ⟨fun pos pins s σ H Q I q => h.run pos pins s σ H Q I (f σ H Q q)⟩
theorem pkm_nil : PKM X E [] mNil := pk_imp pk_nil fun σ H Q ⟨ρ, s, S, rep, env, o⟩ => Out.here o rep .nil
theorem pkm_cons {nm : Option Str} {kpos : Pos} {ma : SM W} (ha : PM X E a ma) (hr : PKM X E kws mk) : PKM X E (⟨nm, a, kpos⟩ :: kws) (mCons ma mk) :=
  pk_imp (pk_cons ha hr) fun σ H Q h => tX.bind h fun ρ1 H1 w x s S1 rep env r o => ⟨ρ1, s, S1, rep, env, Out.bind o fun ρ2 H2 ws xs S2 e2 rep2 r2 o2 => Out.here o2 rep2 (.cons (r.ext e2) r2)⟩
theorem kw_run {f : Addr} {fd : FuncData} {idx : List Nat} {ks : List Str} (F : Fun X.K x x st f fd) (h4 : FnM X.prog X.w X.K X.mg X.base k f fd ps ps.length g) (hr : Room k X.A) (tk : Takes X (fun c d _ H => E c d H)) {nb : Nat} (hidx : idx.all (· < n + nb) = true) (hil : idx.length = ps.length) (hks : ks.length = nb)
    (hb : ∀ (kV doc pm : Value) (an : Option Addr) (cdv ct : Value) (us ws : List Value), us.length = n → ws.length = nb → bindArgs (PySem.W.fnOf x x (defArgs st) (defBody st) (defScope st) .none kV doc pm an cdv ct) ⟨us, ks.zip ws⟩ = pure (ps.zip (pIdx idx (us ++ ws))))
    {pins : List (Addr × Obj)} {σ : L2.St} {H : Hp} {s : Shared} {Q : VK} {us ws : List Value} {vs zs : List V} (I : Inv X pins σ H s) (r : Vals vs us) (rz : Vals zs ws) (l1 : vs.length = n) (l2 : zs.length = nb) (h : spM X.K X.mg ps.length g (pIdx idx (vs ++ zs)) H Q E) : wpAny (model X.prog X.w) X.A (call (.ref f) us (ks.zip ws)) (EP X pins σ Q) X.xe s := by
  obtain ⟨oc, od, kV, doc, pm, an, cdv, ct, osl, rfl, _, _⟩ := F.ex
  have r2 := r.append rz
  refine wpAny_call (codeAny_mono (h4.run X.A X.stack s H ⟨us, ks.zip ws⟩ (pIdx idx (us ++ ws)) (pIdx idx (vs ++ zs)) Q E hr I.env0 (.of_eq (hb kV doc pm an cdv ct us ws (r.length.symm.trans l1) (rz.length.symm.trans l2))) (pIdx_vals r2) h) fun r s' hq => ?_)
  cases r with
  | error e => exact passM tk pins σ H s e s' I hq
  | ok fl =>
    cases fl with
    | ret u => exact I.after hq
    | next => exact False.elim hq
    | brk => exact False.elim hq
    | cont => exact False.elim hq
/-- f(k = v, ..) -/
theorem pm_callK0 {nb : Nat} [hl2 : Len mk nb] (idx : List Nat) (ks : List Str) (F : FnE X.prog X.w X.K X.mg X.base k x st ps g) (hr : Room k' X.A) (hk : k ≤ k') (tk : Takes X (fun c d _ H => E c d H)) (hkw : PKM X E kws mk)
    (hb : ∀ (kV doc pm : Value) (an : Option Addr) (cdv ct : Value) (us ws : List Value), us.length = 0 → ws.length = nb → bindArgs (PySem.W.fnOf x x (defArgs st) (defBody st) (defScope st) .none kV doc pm an cdv ct) ⟨us, ks.zip ws⟩ = pure (ps.zip (pIdx idx (us ++ ws))))
    (hidx : idx.all (· < 0 + nb) = true := by decide) (hil : idx.length = ps.length := by rfl) (hkl : ks.length = nb := by rfl) (hks : (backToKw pos (keywordEach kws X.env)).filterMap (·.1) = ks := by rfl)
    (hall : (backToKw pos (keywordEach kws X.env)).all (·.1.isSome) = true := by rfl) (hg : Gl X x := by rfl) (hdb : (x == ("__debug__" : Str)) = false := by decide +kernel)
    (hpl : (backToKw pos (keywordEach kws X.env)).any (·.1.isNone) = false := by rfl) : PM X E (.Call (.Name x p) [] kws pos) (mCallK idx g mNil mk) := by
  obtain ⟨f, fd, h1, h2, h3, h4⟩ := F
  refine ⟨fun pins s σ H Q I h => ?_⟩
  obtain ⟨ρ, sW, S, rep, env, o⟩ := h
  refine wpAny_Call_Name_kw (ld_glob I hg h1 ?_ hdb)
  refine PySem.W.callWith_KW0 (h₀ := X.base) I.ok.mod.kin h2.kp hall ?_ hpl
  have hq : tA X E mk σ H (fun zs H2 => zs.length = nb ∧ spM X.K X.mg ps.length g (pIdx idx ([] ++ zs)) H2 Q E) := by
    refine ⟨ρ, sW, S, rep, env, ?_⟩
    cases e : mk sW S with
    | ok ws S1 =>
      have o : Out X.K X.mg (RW X.K X.mg) E ρ H ((mk sW S).bind fun ws S2 => g (pIdx idx ([] ++ ws)) S2) Q := o
      rw [e] at o
      exact fun ρ1 H1 zs x rep1 r => ⟨by rw [← r.length]; exact hl2.len _ _ _ _ e, ρ1, S1, pIdx idx ([] ++ ws), rep1, pIdx_rws (by simpa using r), by
        rw [pIdx_len fun i hi => ?_, hil]
        have := of_decide_eq_true (List.all_eq_true.mp hidx i hi)
        rw [List.nil_append, hl2.len _ _ _ _ e]
        omega, Out.ext x o⟩
    | exc c ns ws S1 =>
      have o : Out X.K X.mg (RW X.K X.mg) E ρ H ((mk sW S).bind fun ws S2 => g (pIdx idx ([] ++ ws)) S2) Q := o
      rw [e] at o; exact o
    | bad =>
      have o : Out X.K X.mg (RW X.K X.mg) E ρ H ((mk sW S).bind fun ws S2 => g (pIdx idx ([] ++ ws)) S2) Q := o
      rw [e] at o; exact o
  refine thn (hkw.run pos pins s σ H _ I hq) fun ws s2 ⟨zs, H2, I2, rz, l2, q2⟩ => ⟨I2.kIn, ?_⟩
  rw [hks]
  exact kw_run (n := 0) (us := []) (vs := []) h2 h4 (hr.mono hk) tk hidx hil hkl hb I2 .nil rz rfl l2 q2
end
theorem hu64 {k : Nat} {A : Around} (hr : Room k A) : A.units + 64 < cLine := hr.units
theorem hu65 {k : Nat} {A : Around} (hr : Room k A) : A.units + 65 < cLine := by have := hr.un; omega
def mChT (g g' : W → W → Store → Res W) (ma mb mc : SM W) : SM Bool := fun s S => asB (mChain g g' ma mb mc s S)
theorem takesE0 {X : Cx} : Takes X (fun c d _ H => E0 c d H) := takes0
/-- sep.join(list of texts) -/
def strsW : List W → Option (List Str)
  | [] => some []
  | .str x :: r => (strsW r).map (x :: ·)
  | _ => none
theorem strsW_of {K : PySem.W.Frag} {mg : Str → Option Value} {ρ : RT} {H : Hp} : ∀ {ws : List W} {vs : List V} {bs : List Str}, RWs K mg ρ H ws vs → strsW ws = some bs → vs = bs.map V.str
  | _, _, _, .nil, h => by cases (Option.some.inj h : [] = _); rfl
  | _, _, _, .cons (w := w) (ws := ws) r t, h => by
    cases w with
    | str b =>
      cases e : strsW ws with
      | none => simp [strsW, e] at h
      | some bs =>
        simp [strsW, e] at h
        subst h
        cases r
        rw [strsW_of t e]
        rfl
    | _ => cases h
/-- a text's method of one argument -/
def mM1 (g : Str → W → Store → Res W) (mo me : SM W) : SM W := fun s S => (mo s S).bind fun o S1 => match o with
  | .str a => (me s S1).bind fun w S2 => g a w S2
  | _ => .bad
def gJoin (a : Str) (w : W) (S : Store) : Res W := match (seqA S w).bind strsW with
  | some ys => if (ys.map (·.length)).sum + ys.length * a.length ≤ 16777216 then .ok (.str (Txt.join a ys)) S else .bad
  | none => .bad
theorem m1_of {X : Cx} {E : XK} {mo me : SM W} {g : Str → W → Store → Res W} {r : V → List V → Hp → VK → Prop} (hr : ∀ ρ H S a w x Q, RepS X.K X.mg ρ H S → RW X.K X.mg ρ H w x → Out X.K X.mg (RW X.K X.mg) E ρ H (g a w S) Q → r (.str a) [x] H Q) {σ : L2.St} {H : Hp} {Q : VK} (h : tE X E (mM1 g mo me) σ H Q) :
    tM1 r (tE X E mo) (tE X E me) σ H Q := tX.bind h fun ρ1 H1 w x s S1 rep env r o => by
  cases w with
  | str a =>
    cases r
    exact ⟨⟨a, rfl⟩, ρ1, s, S1, rep, env, Out.bind o fun ρ2 H2 w2 x2 S2 e2 rep2 r2 o2 => hr ρ2 H2 S2 a w2 x2 Q rep2 r2 o2⟩
  | _ => exact o.elim
theorem pm_join {X : Cx} {E : XK} {o e : Expr} {mo me : SM W} {apos pos : Pos} (ho : PM X E o mo) (he : PM X E e me) (hs : starEach [e] X.env = [(false, eval e X.env)] := by rfl) (hbase : attributeBase o "join" X.env (eval o X.env) = eval o X.env := by rfl) (hline : (apos.endLine == pos.line) = true := by rfl) :
    PM X E (.Call (.Attribute o "join" apos) [e] [] pos) (mM1 gJoin mo me) :=
  pe_imp (pe_join ho he hs hbase hline) fun σ H Q h => m1_of (fun ρ2 H2 S2 a w2 x2 Q rep2 r2 o2 => by
    unfold gJoin at o2
    cases e3 : seqA S2 w2 with
    | none => rw [e3] at o2; exact o2.elim
    | some ws =>
      rw [e3] at o2
      obtain ⟨p, vs, rfl, hl, hr, _⟩ := seqA_of rep2 r2 e3
      cases e4 : strsW ws with
      | none => simp only [Option.bind, e4] at o2; exact o2.elim
      | some ys =>
        simp only [Option.bind, e4] at o2
        have ev := strsW_of hr e4
        subst ev
        split at o2
        · rename_i hz; exact ⟨a, p, ys, rfl, rfl, hl, hz, Out.here o2 rep2 (.str _)⟩
        · exact o2.elim) h
/-- a module's constants -/
theorem kcon_str {K : PySem.W.Frag} {mg : Str → Option Value} {x y : Str} {h : Heap} {t : Tok} (X : K.In h) (G : h.Ns mainGlobals mg) (a : PySem.W.nsIn K mainGlobals x = some (some (.str y t))) : KCon K mg x (.str y) := ⟨_, .str y, PySem.W.mg_of X G a, ⟨t, rfl⟩, fun _ _ => .str y⟩
theorem kcon_int {K : PySem.W.Frag} {mg : Str → Option Value} {x : Str} {y : Int} {h : Heap} {t : Tok} (X : K.In h) (G : h.Ns mainGlobals mg) (a : PySem.W.nsIn K mainGlobals x = some (some (.int y t))) : KCon K mg x (.int y) := ⟨_, .int y, PySem.W.mg_of X G a, ⟨t, rfl⟩, fun _ _ => .int y⟩
/-- a tuple of texts -/
theorem kcon_tupS {K : PySem.W.Frag} {mg : Str → Option Value} {x : Str} {h : Heap} {b : Addr} {dd : Option Addr} {its : Array Value} {n : Nat} {sl : Array (Option Value)} {ys : List Str} (X : K.In h) (G : h.Ns mainGlobals mg) (a : PySem.W.nsIn K mainGlobals x = some (some (.ref b)))
    (l : K.lookup b = some ⟨.type "tuple", dd, .seq its n, sl⟩) (hz : its.size ≤ lim) (hs : its.toList.map absV = ys.map fun y => some (V.str y)) : KCon K mg x (.tup (ys.map W.str)) := by
  refine ⟨_, .ref b, PySem.W.mg_of X G a, rfl, fun ρ H => .tup (vs := ys.map V.str) (.inr ⟨_, its, n, l, rfl, rfl, lim_line hz, ?_⟩) ?_⟩
  · have : ∀ (us : List Value) (ys : List Str), us.map absV = (ys.map fun y => some (V.str y)) → Vals (ys.map V.str) us := by
      intro us
      induction us with
      | nil => intro ys h; cases ys with
        | nil => exact .nil
        | cons _ _ => cases h
      | cons u r ih =>
        intro ys h
        cases ys with
        | nil => cases h
        | cons y ys =>
          rw [List.map_cons, List.map_cons] at h
          have h1 := (List.cons.inj h).1
          refine .cons ?_ (ih ys (List.cons.inj h).2)
          cases u with
          | str z t =>
            cases (Option.some.inj h1 : V.str z = V.str y)
            exact ⟨t, rfl⟩
          | _ => cases h1
    exact this _ _ hs
  · clear hs
    induction ys with
    | nil => exact .nil
    | cons y r ih => exact .cons (.str y) ih
end RL
end

section
set_option maxRecDepth 100000
set_option maxHeartbeats 2000000
namespace RL
open PySem PySem.Spec L2
open PyProof.Rows hiding St
/-! ### the law's end -/
def spLaw (K : PySem.W.Frag) : Sp := fun vs H Q _ => ∃ (a : Addr) (ns : List Int), vs = [.ref a] ∧ SqL K H a (ns.map V.int) ∧ ns.length ≤ 63 ∧ Only H ∧ ∀ H', Q (.bl true) H'
theorem spLaw_of {K : PySem.W.Frag} {mg : Str → Option Value} {g : Fn} (hg : ∀ ns : List Int, ns.length ≤ 63 → ∃ S, g [.flst (ns.map W.int)] [] = .ok (.bl true) S) {vs : List V} {H : Hp} {Q : VK} {E : XK} (h : spLaw K vs H Q E) : spM K mg 1 g vs H Q E := by
  obtain ⟨a, ns, rfl, hS, hn, hO, q⟩ := h
  have intsW : ∀ ns : List Int, RWs K mg ⟨[], []⟩ H (ns.map W.int) (ns.map V.int) := fun ns => by
    induction ns with
    | nil => exact .nil
    | cons n r ih => exact .cons (.int n) ih
  refine ⟨⟨[], []⟩, [], [.flst (ns.map W.int)], ⟨rfl, List.nodup_nil, fun l o h => by simp at h, fun a h => by simp at h⟩, .cons (.flst ?_ (intsW ns)) .nil, rfl, ?_⟩
  · rcases hS with (h | ⟨o, h⟩) | h
    · rcases hO a with z | ⟨o, xs, z⟩
      · rw [z] at h; cases h
      · rw [z] at h; cases h
    · exact .inl ⟨o, h, by simp, by simp⟩
    · exact .inr h
  · obtain ⟨S, e⟩ := hg ns hn
    rw [e]
    intro ρ' H' v _ _ r
    cases r
    exact q _
theorem walk_law {l : PySem.W.OpenLaw} {k : Nat} {q : Program} {loose : List Str} {XP : (Str → Option Value) → Heap → Prop} {YP : World → Heap → Prop} {d : DefRec} {K : Params → PySem.W.Frag} {x : Str} {st : Stmt} {g : Fn}
    (hg : ∀ ns : List Int, ns.length ≤ 63 → ∃ S, g [.flst (ns.map W.int)] [] = .ok (.bl true) S)
    (hbind : ∀ (kV doc pm : Value) (an : Option Addr) (cdv ct u : Value), bindArgs (PySem.W.fnOf d.name d.name (defArgs st) (defBody st) (defScope st) .none kV doc pm an cdv ct) ⟨[u], []⟩ = pure [(x, u)])
    (hn : l.most = some 63) (hdf : d.params.defaults = []) (hr : Room k callerA) (hY : ∀ (w : World) (h : Heap), YP w h → (K w.params).In h)
    (hT : ∀ (w : World) (mg : Str → Option Value) (h : Heap), (K w.params).In h → h.Ns mainGlobals mg → FTx (K w.params) mg d.name st [x] ∧ ∀ base, FnE l.prog w (K w.params) mg base k d.name st [x] g) :
    PySem.W.WalkO q loose XP YP l.row.toRowW d [] (fun f vs => PySem.call f vs) := by
  refine L2.walk_of (l := l) (n := 63) (k := k) (x := x) (CX := fun w => L2.CX l.prog w) (sp := fun w => spLaw (K w.params)) hn (by decide) hdf hr hY ?_ (fun w H a ns h1 h2 h3 => ⟨a, ns, rfl, h3, h1, h2, fun _ => rfl⟩) fun w H s e s' z => cx_end z
  intro w mg fa h KX G hmg
  obtain ⟨⟨f, fd, F, hf, hb⟩, hE⟩ := hT w mg h KX G
  rw [hmg] at hf
  cases hf
  refine ⟨fd, fun s u => ?_, fun base KB GB => ?_⟩
  · obtain ⟨oc, od, kV, doc, pm, an, cdv, ct, osl, rfl, _, _⟩ := F.ex
    exact .of_eq (hbind kV doc pm an cdv ct u)
  · obtain ⟨f', fd', h1, h2, h3, h4⟩ := hE base
    rw [hmg] at h1
    cases h1
    obtain ⟨oc, od, kV, doc, pm, an, cdv, ct, osl, e1, l1, _⟩ := F.ex
    obtain ⟨oc', od', kV', doc', pm', an', cdv', ct', osl', e2, l2, _⟩ := h2.ex
    rw [l1] at l2
    injection l2 with l2
    injection l2 with _ _ l2 _
    injection l2 with l2
    subst l2
    exact h4.imp fun vs H Q E z => spLaw_of hg z
end RL
end

section
set_option maxRecDepth 100000
set_option maxHeartbeats 2000000
namespace RL
open PySem PySem.Spec L2
open PyProof.Rows hiding St
/-! ### plain reasoning about the denotations -/
/-- it ends well, with Q -/
def Ev {α : Type} (r : Res α) (Q : α → Store → Prop) : Prop := match r with
  | .ok a S => Q a S
  | _ => False
section
variable {α β : Type} {a : α} {S : Store} {Q Q' : α → Store → Prop} {r : Res α} {k : α → Store → Res β} {R : β → Store → Prop}
@[simp] theorem ev_ok : Ev (.ok a S) Q ↔ Q a S := Iff.rfl
@[simp] theorem ev_bad : Ev (.bad : Res α) Q ↔ False := Iff.rfl
@[simp] theorem ev_bind : Ev (r.bind k) R ↔ Ev r fun a S => Ev (k a S) R := by cases r <;> exact Iff.rfl
@[simp] theorem ok_bind : (Res.ok a S).bind k = k a S := rfl
@[simp] theorem bad_bind : (Res.bad : Res α).bind k = .bad := rfl
theorem Ev.mono (h : Ev r Q) (hq : ∀ a S, Q a S → Q' a S) : Ev r Q' := by
  cases r with
  | ok a S => exact hq _ _ h
  | _ => exact h
theorem Ev.of (e : r = .ok a S) (h : Q a S) : Ev r Q := by rw [e]; exact h
theorem Ev.eq {r : Res α} {a : α} {S : Store} (h : Ev r fun b T => b = a ∧ T = S) : r = .ok a S := by
  cases r with
  | ok b T => obtain ⟨rfl, rfl⟩ := h; rfl
  | _ => exact h.elim
theorem ev_eq_iff : (r = .ok a S) ↔ Ev r fun b T => b = a ∧ T = S := ⟨fun h => by rw [h]; exact ⟨rfl, rfl⟩, Ev.eq⟩
theorem Ev.ex (h : Ev r Q) : ∃ a S, r = .ok a S ∧ Q a S := by
  cases r with
  | ok b T => exact ⟨b, T, rfl, h⟩
  | _ => exact h.elim
theorem Ev.law (h : Ev (r : Res α) fun b _ => b = a) : ∃ S, r = .ok a S := by
  cases r with
  | ok b T => exact ⟨T, by rw [show b = a from h]⟩
  | _ => exact h.elim
end
section
variable {s : Env'} {S : Store} {w : W} {i : Nat}
@[simp] theorem mC_eq : mC w s S = .ok w S := rfl
@[simp] theorem mNil_eq : mNil s S = .ok [] S := rfl
@[simp] theorem mYes_eq : mYes s S = .ok true S := rfl
@[simp] theorem mSkip_eq : mSkip s S = .ok (.nx, s) S := rfl
@[simp] theorem mNoPart_eq : mNoPart s S = .ok none S := rfl
@[simp] theorem mVar_0 : mVar 0 (some w :: s) S = .ok w S := rfl
@[simp] theorem mVar_s {o : Option W} : mVar (i + 1) (o :: s) S = mVar i s S := by simp [mVar]
@[simp] theorem gNm_eq : gNm i w s S = .ok (s.set i (some w)) S := rfl
@[simp] theorem gTp_eq {n : Nat} {gs : GMs} {ws : List W} : gTp n gs (.tup ws) s S = if ws.length = n then gs ws s S else .bad := rfl
@[simp] theorem gNil_eq : gNil [] s S = .ok s S := rfl
@[simp] theorem gCons_eq {g : GM} {gs : GMs} {ws : List W} : gCons g gs (w :: ws) s S = (g w s S).bind fun s1 S1 => gs ws s1 S1 := rfl
end
section
variable {s : Env'} {S : Store} {w w1 w2 : W} {ws us : List W} {i j : Nat} {g g' : W → W → Store → Res W} {ma mb mc : SM W} {na nb : SM Bool} {m ms : SS} {mr : SM (List W)} {f : List W → Store → Res W} {gm : GM}
@[simp] theorem mBin_eq : mBin g ma mb s S = (ma s S).bind fun x S1 => (mb s S1).bind fun y S2 => g x y S2 := rfl
@[simp] theorem mUn_eq {g : W → Store → Res W} : mUn g ma s S = (ma s S).bind g := rfl
@[simp] theorem mTru_eq : mTru ma s S = (ma s S).bind fun w S1 => match truW S1 w with
  | some b => .ok b S1
  | none => .bad := rfl
@[simp] theorem asB_ok {b : Bool} : asB (.ok (.bl b) S) = .ok b S := rfl
@[simp] theorem mBT_eq : mBT g ma mb s S = (ma s S).bind fun x S1 => (mb s S1).bind fun y S2 => asB (g x y S2) := by
  unfold mBT mBin asB
  cases ma s S with
  | ok a S1 => dsimp [Res.bind]; cases mb s S1 <;> rfl
  | _ => rfl
@[simp] theorem mAndT_eq : mAndT na nb s S = (na s S).bind fun c S1 => if c = true then nb s S1 else .ok false S1 := rfl
@[simp] theorem mOrT_eq : mOrT na nb s S = (na s S).bind fun c S1 => if c = true then .ok true S1 else nb s S1 := rfl
@[simp] theorem mNotT_eq : mNotT na s S = (na s S).bind fun c S1 => .ok (!c) S1 := rfl
def andV (ma : SM W) (s : Env') (w : W) (S : Store) : Res W := match w with
  | .bl true => ma s S
  | .bl false => .ok (.bl false) S
  | _ => .bad
def orV (ma : SM W) (s : Env') (w : W) (S : Store) : Res W := match w with
  | .bl true => .ok (.bl true) S
  | .bl false => ma s S
  | _ => .bad
@[simp] theorem mAndV_eq : mAndV ma mb s S = (ma s S).bind (andV mb s) := rfl
@[simp] theorem mOrV_eq : mOrV ma mb s S = (ma s S).bind (orV mb s) := rfl
@[simp] theorem andV_bl {b : Bool} : andV ma s (.bl b) S = if b = true then ma s S else .ok (.bl false) S := by cases b <;> rfl
@[simp] theorem orV_bl {b : Bool} : orV ma s (.bl b) S = if b = true then .ok (.bl true) S else ma s S := by cases b <;> rfl
@[simp] theorem mIfE_eq : mIfE na ma mb s S = (na s S).bind fun k S1 => if k = true then ma s S1 else mb s S1 := rfl
def chV (g' : W → W → Store → Res W) (mc : SM W) (s : Env') (y z : W) (S : Store) : Res W := match z with
  | .bl true => (mc s S).bind fun w S4 => g' y w S4
  | .bl false => .ok (.bl false) S
  | _ => .bad
@[simp] theorem mChain_eq : mChain g g' ma mb mc s S = (ma s S).bind fun x S1 => (mb s S1).bind fun y S2 => (g x y S2).bind (chV g' mc s y) := rfl
@[simp] theorem chV_bl {b : Bool} : chV g' mc s w (.bl b) S = if b = true then (mc s S).bind fun u S4 => g' w u S4 else .ok (.bl false) S := by cases b <;> rfl
@[simp] theorem mChT_eq : mChT g g' ma mb mc s S = asB ((ma s S).bind fun x S1 => (mb s S1).bind fun y S2 => (g x y S2).bind (chV g' mc s y)) := rfl
@[simp] theorem asB_bind {α : Type} {r : Res α} {k : α → Store → Res W} : asB (r.bind k) = r.bind fun a S => asB (k a S) := by cases r <;> rfl
@[simp] theorem asB_ite {c : Prop} [Decidable c] {a b : Res W} : asB (if c then a else b) = if c then asB a else asB b := by split <;> rfl
@[simp] theorem mPart_eq : mPart ma s S = (ma s S).bind fun w S1 => match w with
  | .int i => .ok (some i) S1
  | _ => .bad := rfl
@[simp] theorem mSl_eq {ml mh : SM (Option Int)} : mSl ma ml mh s S = (ma s S).bind fun w S1 => (ml s S1).bind fun lo S2 => (mh s S2).bind fun hi S3 => gSl w lo hi S3 := rfl
@[simp] theorem mCons_eq : mCons ma mr s S = (ma s S).bind fun w S1 => (mr s S1).bind fun ws S2 => .ok (w :: ws) S2 := rfl
@[simp] theorem mAp_eq : mAp f mr s S = (mr s S).bind f := rfl
@[simp] theorem g1_eq {g : W → Store → Res W} : g1 g [w] S = g w S := rfl
def seqK (ms : SS) (p : Fl × Env') (S : Store) : Res (Fl × Env') := match p with
  | (.nx, s1) => ms s1 S
  | p => .ok p S
@[simp] theorem mSeq_eq : mSeq m ms s S = (m s S).bind (seqK ms) := rfl
@[simp] theorem seqK_nx : seqK ms (.nx, s) S = ms s S := rfl
@[simp] theorem seqK_rt : seqK ms (.rt w, s) S = .ok (.rt w, s) S := rfl
@[simp] theorem seqK_bk : seqK ms (.bk, s) S = .ok (.bk, s) S := rfl
@[simp] theorem seqK_ct : seqK ms (.ct, s) S = .ok (.ct, s) S := rfl
@[simp] theorem mExpr_eq : mExpr ma s S = (ma s S).bind fun _ S1 => .ok (.nx, s) S1 := rfl
@[simp] theorem mRet_eq : mRet ma s S = (ma s S).bind fun w S1 => .ok (.rt w, s) S1 := rfl
@[simp] theorem mIf_eq : mIf na m ms s S = (na s S).bind fun b S1 => if b = true then m s S1 else ms s S1 := rfl
@[simp] theorem mAsg_eq : mAsg ma gm s S = (ma s S).bind fun w S1 => (gm w s S1).bind fun s' S2 => .ok (.nx, s') S2 := rfl
def parK (i j : Nat) (s : Env') (ws : List W) (S : Store) : Res (Fl × Env') := match ws with
  | [v, w] => .ok (.nx, (s.set i (some v)).set j (some w)) S
  | _ => .bad
@[simp] theorem mPar_eq : mPar i j mr s S = (mr s S).bind (parK i j s) := rfl
@[simp] theorem parK_eq : parK i j s [w1, w2] S = .ok (.nx, (s.set i (some w1)).set j (some w2)) S := rfl
@[simp] theorem mAug_eq : mAug i g ma s S = match s[i]? with
  | some (some x) => (ma s S).bind fun y S1 => (g x y S1).bind fun z S2 => .ok (.nx, s.set i (some z)) S2
  | _ => .bad := rfl
@[simp] theorem gSubI_eq {v : W} : gSubI ma mb v s S = (ma s S).bind fun o S1 => (mb s S1).bind fun i S2 => (gSetI o i v S2).bind fun _ S3 => .ok s S3 := rfl
@[simp] theorem mFor_eq {mi : SM ItW} : mFor mi gm m s S = (mi s S).bind fun it S1 => mForI it gm m s S1 := rfl
@[simp] theorem mForI_fix : mForI (.fix ws) gm m s S = mForL gm m ws s S := rfl
def lcK (S2 : Store) (acc : List W) : Res W := .ok (.lst acc) S2
@[simp] theorem mLc_eq {mi : SM ItW} {vs : List Nat} : mLc mi vs gm na ma s S = (mi s S).bind fun it S1 => (mLcI it gm na ma (wipeW s vs) S1).bind fun acc S2 => .ok (.lst acc) S2 := rfl
@[simp] theorem mLcI_fix : mLcI (.fix ws) gm na ma s S = mLcL gm na ma s ws [] S := rfl
@[simp] theorem mCallK_eq {idx : List Nat} {g : Fn} {mr mk : SM (List W)} : mCallK idx g mr mk s S = (mr s S).bind fun us S1 => (mk s S1).bind fun ws S2 => g (pIdx idx (us ++ ws)) S2 := rfl
/- operators at values -/
@[simp] theorem gAdd_int {i j : Int} : gAdd (.int i) (.int j) S = .ok (.int (i + j)) S := rfl
@[simp] theorem gAdd_str {x y : Str} : gAdd (.str x) (.str y) S = if x.length + y.length ≤ lim then .ok (.str (x ++ y)) S else .bad := rfl
@[simp] theorem gAdd_lst : gAdd (.lst ws) (.lst us) S = if ws.length + us.length ≤ lim then .ok (.lst (ws ++ us)) S else .bad := rfl
@[simp] theorem gI_eq {f : Int → Int → Int} {i j : Int} : gI f (.int i) (.int j) S = .ok (.int (f i j)) S := rfl
@[simp] theorem gIc_eq {c : Int → Int → Bool} {f : Int → Int → Int} {i j : Int} : gIc c f (.int i) (.int j) S = if c i j = true then .ok (.int (f i j)) S else .bad := rfl
@[simp] theorem gIb_eq {f : Int → Int → Bool} {i j : Int} : gIb f (.int i) (.int j) S = .ok (.bl (f i j)) S := rfl
@[simp] theorem gMul_int {i j : Int} : gMul (.int i) (.int j) S = if cMul i j = true then .ok (.int (i * j)) S else .bad := rfl
@[simp] theorem gMul_lst {k : Int} : gMul (.lst ws) (.int k) S = if -(2 ^ 63) ≤ k ∧ k < 2 ^ 63 ∧ ws.length * k.toNat ≤ lim then .ok (.lst (List.replicate k.toNat ws).flatten) S else .bad := rfl
@[simp] theorem gEq_str {n : Bool} {x y : Str} : gEq n (.str x) (.str y) S = .ok (.bl (xorB n (decide (x = y)))) S := rfl
@[simp] theorem gEq_int {n : Bool} {x y : Int} : gEq n (.int x) (.int y) S = .ok (.bl (xorB n (decide (x = y)))) S := rfl
@[simp] theorem gEq_bl {n : Bool} {x y : Bool} : gEq n (.bl x) (.bl y) S = .ok (.bl (xorB n (decide (x = y)))) S := rfl
@[simp] theorem xorB_t {b : Bool} : xorB true b = !b := rfl
@[simp] theorem xorB_f {b : Bool} : xorB false b = b := rfl
@[simp] theorem gIs_non {n : Bool} : gIs n w .non S = .ok (.bl (xorB n (isNonW w))) S := rfl
@[simp] theorem gIs_bl {n a b : Bool} : gIs n (.bl a) (.bl b) S = .ok (.bl (xorB n (decide (a = b)))) S := rfl
@[simp] theorem gTup_eq : gTup ws S = if ws.length ≤ lim then .ok (.tup ws) S else .bad := rfl
@[simp] theorem gLst_eq : gLst ws S = if ws.length ≤ lim then .ok (.lst ws) S else .bad := rfl
@[simp] theorem gLstR_eq : gLstR ws S = if ws.length ≤ lim then .ok (.ref S.length) (S ++ [.lst ws]) else .bad := rfl
@[simp] theorem gInt_int {i : Int} : gInt (.int i) S = .ok (.int i) S := rfl
@[simp] theorem gLen_str {x : Str} : gLen (.str x) S = if x.length ≤ lim then .ok (.int x.length) S else .bad := rfl
@[simp] theorem gLen_tup : gLen (.tup ws) S = .ok (.int ws.length) S := rfl
@[simp] theorem gLen_lst : gLen (.lst ws) S = .ok (.int ws.length) S := rfl
@[simp] theorem gLen_flst : gLen (.flst ws) S = .ok (.int ws.length) S := rfl
@[simp] theorem gListOf_lst : gListOf (.lst ws) S = .ok (.lst ws) S := rfl
@[simp] theorem gListOf_flst : gListOf (.flst ws) S = .ok (.lst ws) S := rfl
@[simp] theorem gListOf_tup : gListOf (.tup ws) S = .ok (.lst ws) S := rfl
@[simp] theorem gSl_str {x : Str} {lo hi : Option Int} : gSl (.str x) lo hi S = if x.length ≤ lim then .ok (.str (cutS x lo hi)) S else .bad := rfl
@[simp] theorem gSl_tup {lo hi : Option Int} : gSl (.tup ws) lo hi S = .ok (.tup (cutW ws lo hi)) S := rfl
@[simp] theorem gSl_lst {lo hi : Option Int} : gSl (.lst ws) lo hi S = .ok (.lst (cutW ws lo hi)) S := rfl
@[simp] theorem gSl_flst {lo hi : Option Int} : gSl (.flst ws) lo hi S = .ok (.lst (cutW ws lo hi)) S := rfl
@[simp] theorem litl_le {n : Nat} : (no_index (OfNat.ofNat n : Nat) ≤ lim) ↔ (OfNat.ofNat n : Nat) ≤ 16777216 := Iff.rfl
@[simp] theorem litl_lt {n : Nat} : (no_index (OfNat.ofNat n : Nat) < lim) ↔ (OfNat.ofNat n : Nat) < 16777216 := Iff.rfl
theorem gIx_lst {i : Int} (h : atI ws i = some w) : gIx (.lst ws) (.int i) S = .ok w S := by simp [gIx, seqL, h]
theorem gIx_flst {i : Int} (h : atI ws i = some w) : gIx (.flst ws) (.int i) S = .ok w S := by simp [gIx, seqL, h]
theorem gIx_tup {i : Int} (h : atI ws i = some w) : gIx (.tup ws) (.int i) S = .ok w S := by simp [gIx, h]
theorem gIx_ref {l : Nat} {i : Int} (hl : S[l]? = some (.lst ws)) (h : atI ws i = some w) : gIx (.ref l) (.int i) S = .ok w S := by simp [gIx, seqL, hl, h]
theorem gIx_str {x : Str} {i : Int} {c : Nat} (hx : x.length ≤ lim) (h : atI x.cps.toList i = some c) : gIx (.str x) (.int i) S = .ok (.str ⟨#[c]⟩) S := by simp [gIx, hx, h]
theorem atI_nat {α : Type} {xs : List α} {i : Int} (h0 : 0 ≤ i) : atI xs i = xs[i.toNat]? := by
  unfold atI ixN
  rw [if_pos h0]
  by_cases h : i < xs.length
  · rw [if_pos h]; rfl
  · rw [if_neg h, List.getElem?_eq_none (by omega)]; rfl
@[simp] theorem seqL_ref {l : Nat} : seqL S (.ref l) = lstAt S l := rfl
@[simp] theorem seqL_lst : seqL S (.lst ws) = some ws := rfl
@[simp] theorem seqL_flst : seqL S (.flst ws) = some ws := rfl
@[simp] theorem gIx_ref' {l : Nat} {i : Int} : gIx (.ref l) (.int i) S = match (lstAt S l).bind fun ws => atI ws i with
  | some w => .ok w S
  | none => .bad := rfl
@[simp] theorem gIx_lst' {i : Int} : gIx (.lst ws) (.int i) S = match atI ws i with
  | some w => .ok w S
  | none => .bad := rfl
@[simp] theorem gIx_flst' {i : Int} : gIx (.flst ws) (.int i) S = match atI ws i with
  | some w => .ok w S
  | none => .bad := rfl
@[simp] theorem gIx_tup' {i : Int} : gIx (.tup ws) (.int i) S = match atI ws i with
  | some w => .ok w S
  | none => .bad := rfl
theorem gSetI_eq {l : Nat} {i : Int} : gSetI (.ref l) (.int i) w S = match lstAt S l with
  | some ws => (match ixN ws.length i with
    | some j => .ok () (S.set l (.lst (ws.set j w)))
    | none => .bad)
  | none => .bad := by
  dsimp only [gSetI, lstAt]
  generalize S[l]? = z
  rcases z with _ | o
  · rfl
  · cases o <;> rfl
@[simp] theorem lstAt_set {l : Nat} (h : l < S.length) : lstAt (S.set l (.lst ws)) l = some ws := by
  unfold lstAt; rw [List.getElem?_set_self h]
theorem lstAt_get {l : Nat} (h : S[l]? = some (.lst ws)) : lstAt S l = some ws := by unfold lstAt; rw [h]
@[simp] theorem atI_lit {α : Type} {xs : List α} {n : Nat} : atI xs (no_index (OfNat.ofNat n) : Int) = xs[(OfNat.ofNat n : Nat)]? := by
  show atI xs (Int.ofNat n) = xs[n]?
  exact atI_nat (i := Int.ofNat n) (Int.natCast_nonneg n)
theorem gSetI_ref {l : Nat} {i : Int} (hl : S[l]? = some (.lst ws)) {j : Nat} (h : ixN ws.length i = some j) : gSetI (.ref l) (.int i) w S = .ok () (S.set l (.lst (ws.set j w))) := by simp [gSetI, hl, h]
end

/-! ### texts by their signs -/
def tx (l : List Nat) : Str := ⟨l.toArray⟩
section
variable {a b : List Nat} {S : Store} {i : Int} {s : Env'}
@[simp] theorem tx_len : (tx a).length = a.length := SX.S_len a
@[simp] theorem tx_cat : tx a ++ tx b = tx (a ++ b) := SX.S_cat a b
@[simp] theorem tx_inj : (tx a = tx b) ↔ a = b := ⟨SX.S_inj, fun h => by rw [h]⟩
@[simp] theorem tx_sign {c : Nat} : (⟨#[c]⟩ : Str) = tx [c] := rfl
@[simp] theorem tx_list : (tx a).cps.toList = a := by simp [tx]
@[simp] theorem tx_size : (tx a).cps.size = a.length := by simp [tx]
theorem tx_of (x : Str) : x = tx x.cps.toList := (SX.S_tl x).symm
theorem lit_eq {x : String} {a : List Nat} (h : (x.toList.map Char.toNat) = a) : Str.ofString x = tx a := by rw [Str.ofString_eq_toList, h]; rfl
@[simp] theorem cut_to (h : 0 ≤ i) : cutS (tx a) none (some i) = tx (a.take i.toNat) := by
  rw [C8.cutS_slice]; exact SX.slice_to h
@[simp] theorem cut_from (h : 0 ≤ i) : cutS (tx a) (some i) none = tx (a.drop i.toNat) := by
  rw [C8.cutS_slice]; exact SX.slice_from h
@[simp] theorem signs_tx : signs (tx a) = a.map fun c => .str (tx [c]) := by simp [signs]
@[simp] theorem gIx_str' {x : Str} : gIx (.str x) (.int i) S = if x.length ≤ lim then (match atI x.cps.toList i with
  | some c => .ok (.str (tx [c])) S
  | none => .bad) else .bad := rfl
theorem gIn_sign {n : Bool} {c : Nat} : gIn n (.str (tx [c])) (.str (tx a)) S = .ok (.bl (xorB n (decide (c ∈ a)))) S := by
  show Res.ok (W.bl (xorB n (!(Builtin.Str.occurrences (SX.S a) (SX.S [c]) 0 (SX.S a).length 1).isEmpty))) S = _
  rw [SX.in_one]
theorem gIn_strs {n : Bool} {x : Str} : ∀ {w : W} {ys : List Str}, (tupL w).or (seqL S w) = some (ys.map W.str) → gIn n (.str x) w S = .ok (.bl (xorB n (decide (x ∈ ys)))) S := by
  intro w ys h
  have h1 : (ys.map W.str).all flatW = true := by rw [List.all_map, List.all_eq_true]; intro _ _; rfl
  have h2 : inW (.str x) (ys.map W.str) = decide (x ∈ ys) := by
    unfold inW
    rw [List.any_map, Bool.eq_iff_iff, List.any_eq_true, decide_eq_true_eq]
    exact ⟨fun ⟨y, hy, e⟩ => by rw [← eq_of_beq (show (y == x) = true from e)]; exact hy, fun hx => ⟨x, hx, beq_self_eq_true x⟩⟩
  cases w with
  | str y => simp [tupL, seqL] at h
  | _ => simp only [gIn, h, h1, h2, flatW, and_self, if_true]
@[simp] theorem strsW_map {ys : List (List Nat)} : strsW (ys.map fun y => .str (tx y)) = some (ys.map tx) := by
  induction ys with
  | nil => rfl
  | cons y r ih => simp [strsW, ih]
@[simp] theorem gJoin_eq {x : Str} {w : W} : gJoin x w S = match (seqA S w).bind strsW with
  | some ys => if (ys.map (·.length)).sum + ys.length * x.length ≤ lim then .ok (.str (Txt.join x ys)) S else .bad
  | none => .bad := rfl
@[simp] theorem mM1_eq {g : Str → W → Store → Res W} {mo me : SM W} : mM1 g mo me s S = (mo s S).bind fun o S1 => match o with
  | .str a => (me s S1).bind fun w S2 => g a w S2
  | _ => .bad := rfl
theorem join_tx {ys : List (List Nat)} : Txt.join (tx a) (ys.map tx) = tx (TL.joinL a ys) := SX.join_S a ys
end
/-! ### comprehensions -/
section
variable {α : Type} {g : GM} {t : SM Bool} {e : SM W} {s0 : Env'} {S : Store}
@[simp] theorem nox_ok {a : α} : nox (.ok a S) = .ok a S := rfl
@[simp] theorem ev_nox {r : Res α} {Q : α → Store → Prop} : Ev (nox r) Q ↔ Ev r Q := by cases r <;> exact Iff.rfl
@[simp] theorem mLcL_nil {acc : List W} : mLcL g t e s0 [] acc S = .ok acc S := rfl
@[simp] theorem mLcL_cons {w : W} {r acc : List W} : mLcL g t e s0 (w :: r) acc S = (mLcT g t e s0 w acc S).bind fun acc S => mLcL g t e s0 r acc S := rfl
@[simp] theorem mLcT_eq {w : W} {acc : List W} : mLcT g t e s0 w acc S = (nox (g w s0 S)).bind fun s1 S1 => (nox (t s1 S1)).bind fun b S2 => if b = true then (nox (e s1 S2)).bind fun y S3 => if acc.length < lim then .ok (acc ++ [y]) S3 else .bad else .ok acc S2 := rfl
/-- with an invariant -/
theorem lcL_ev (I : List W → List W → Store → Prop) (step : ∀ w r acc S, I (w :: r) acc S → Ev (mLcT g t e s0 w acc S) fun acc' S' => I r acc' S') : ∀ (ws acc : List W) (S : Store), I ws acc S → Ev (mLcL g t e s0 ws acc S) fun acc' S' => I [] acc' S'
  | [], acc, S, h => h
  | w :: r, acc, S, h => by
    rw [mLcL_cons, ev_bind]
    exact (step w r acc S h).mono fun a T q => lcL_ev I step r a T q
/-- where nothing is changed -/
theorem lcL_pure (f : W → W) : ∀ (ws acc : List W), acc.length + ws.length ≤ lim → (∀ w, w ∈ ws → ∃ s1, g w s0 S = .ok s1 S ∧ e s1 S = .ok (f w) S) → mLcL g mYes e s0 ws acc S = .ok (acc ++ ws.map f) S
  | [], acc, _, h => by simp
  | w :: r, acc, hl, h => by
    obtain ⟨s1, h1, h2⟩ := h w List.mem_cons_self
    rw [List.length_cons] at hl
    have hl' : acc.length < lim := by omega
    simp only [mLcL_cons, mLcT_eq, h1, nox_ok, ok_bind, mYes_eq, h2, if_true, hl']
    rw [lcL_pure f r (acc ++ [f w]) (by rw [List.length_append, List.length_singleton]; omega) fun w' m => h w' (List.mem_cons_of_mem _ m)]
    simp
@[simp] theorem mItems_eq {m : SM W} {s : Env'} : mItems m s S = (m s S).bind fun w S1 => match w with
  | .lst ws => .ok (.fix ws) S1
  | .flst ws => .ok (.fix ws) S1
  | .tup ws => .ok (.fix ws) S1
  | .str x => .ok (.fix (signs x)) S1
  | .ref l => match lstAt S1 l with
    | some _ => .ok (.dyn l) S1
    | none => .bad
  | _ => .bad := rfl
def rng1 (ws : List W) (S1 : Store) : Res ItW := match ws with
  | [.int j] => if okR j = true then .ok (.fix (rngW 0 j.toNat)) S1 else .bad
  | _ => .bad
def rng2 (ws : List W) (S1 : Store) : Res ItW := match ws with
  | [.int i, .int j] => if okR i = true ∧ okR j = true then .ok (.fix (rngW i (j - i).toNat)) S1 else .bad
  | _ => .bad
def zipK (ws : List W) (S1 : Store) : Res ItW := match ws with
  | [w, w'] => match itL w, itL w' with
    | some a, some b => .ok (.fix (zipW a b)) S1
    | _, _ => match tupL w, tupL w' with
      | some a, some b => .ok (.fix (zipW a b)) S1
      | _, _ => .bad
  | _ => .bad
@[simp] theorem mRange1_eq {mr : SM (List W)} {s : Env'} : mRange1 mr s S = (mr s S).bind rng1 := rfl
@[simp] theorem mRange2_eq {mr : SM (List W)} {s : Env'} : mRange2 mr s S = (mr s S).bind rng2 := rfl
@[simp] theorem mZip_eq {mr : SM (List W)} {s : Env'} : mZip mr s S = (mr s S).bind zipK := rfl
@[simp] theorem rng1_eq {j : Int} : rng1 [.int j] S = if okR j = true then .ok (.fix (rngW 0 j.toNat)) S else .bad := rfl
@[simp] theorem rng2_eq {i j : Int} : rng2 [.int i, .int j] S = if okR i = true ∧ okR j = true then .ok (.fix (rngW i (j - i).toNat)) S else .bad := rfl
@[simp] theorem zipK_lst {a b : List W} : zipK [.lst a, .lst b] S = .ok (.fix (zipW a b)) S := rfl
@[simp] theorem zipK_tup {a b : List W} : zipK [.tup a, .tup b] S = .ok (.fix (zipW a b)) S := rfl
end
/-! ### calls -/
section
variable {S : Store} {n : Nat} {m : SS} {ws : List W}
def runK (p : Fl × Env') (S1 : Store) : Res W := match p with
  | (.nx, _) => .ok .non S1
  | (.rt w, _) => .ok w S1
  | _ => .bad
theorem runB_eq : runB n m ws S = (m (startW n ws) S).bind runK := rfl
@[simp] theorem runK_nx {s : Env'} : runK (.nx, s) S = .ok .non S := rfl
@[simp] theorem runK_rt {s : Env'} {w : W} : runK (.rt w, s) S = .ok w S := rfl
end
end RL
end

section
set_option maxRecDepth 100000
set_option maxHeartbeats 4000000
namespace LC
open PySem PySem.Spec L2 RL
open PyProof.Rows hiding St

def c_LETTERS : W := .str "abcdefghijklmnopqrstuvwxyz"
def c_MOST_LETTERS : W := .int 6
def c_RESERVED : W := .tup ((["all", "none", "closed", "open", "rim", "within", "is", "empty", "if", "else", "end", "repeat", "call", "program", "inputs", "outputs", "self"] : List Str).map W.str)
def sh_is_name : SS := (mSeq (mIf (mOrT (mNotT (mTru (mAp (gIsi ktB) (mCons (mVar 0) (mCons (mC (.ty "str")) mNil))))) (mOrT (mNotT (mChT gLe gLe (mC (.int 1)) (mAp (g1 gLen) (mCons (mVar 0) mNil)) (mC c_MOST_LETTERS))) (mBT (gIn false) (mVar 0) (mC c_RESERVED)))) (mRet (mC (.bl false))) mSkip)
  (mRet (mAp (g1 gAll) (mCons (mLc (mItems (mVar 0)) [1] (gNm 1) mYes (mBin (gIn false) (mVar 1) (mC c_LETTERS))) mNil))))
def G_is_name : Fn := runB 2 sh_is_name
def sh__law_cells : SS := (mSeq (mAsg (mC (.int 5741)) (gNm 1))
  (mSeq (mFor (mItems (mSl (mVar 0) mNoPart (mPart (mC (.int 63))))) (gNm 2) (mAsg (mBin gMod (mAp (g1 gInt) (mCons (mBin gAdd (mBin gAdd (mBin gMul (mVar 1) (mC (.int 43987))) (mBin gMod (mAp (g1 gInt) (mCons (mVar 2) mNil)) (mC (.int 2147483423)))) (mC (.int 61))) mNil)) (mC (.int 2147483629))) (gNm 1)))
  (mRet (mAp gLstR (mCons (mAp (g1 gListOf) (mCons (mSl (mVar 0) mNoPart (mPart (mC (.int 63)))) mNil)) (mCons (mC (.int 0)) (mCons (mC (.int 0)) (mCons (mVar 1) (mCons (mC (.int 0)) mNil)))))))))
def G__law_cells : Fn := runB 3 sh__law_cells
def sh__law_draw : SS := (mSeq (mAsg (mBin gAdd (mBin gIx (mVar 0) (mC (.int 4))) (mC (.int 1))) (gSubI (mVar 0) (mC (.int 4))))
  (mSeq (mIf (mAndT (mBT (gEq false) (mBin gIx (mVar 0) (mC (.int 2))) (mC (.int 0))) (mBT gLt (mBin gIx (mVar 0) (mC (.int 1))) (mAp (g1 gLen) (mCons (mBin gIx (mVar 0) (mC (.int 0))) mNil)))) (mSeq (mAsg (mBin gIx (mBin gIx (mVar 0) (mC (.int 0))) (mBin gIx (mVar 0) (mC (.int 1)))) (gNm 3))
  (mSeq (mAsg (mBin gAdd (mBin gIx (mVar 0) (mC (.int 1))) (mC (.int 1))) (gSubI (mVar 0) (mC (.int 1))))
  (mIf (mBT gGe (mVar 3) (mBin gPow (mC (.int 10)) (mC (.int 18)))) (mAsg (mVar 3) (gSubI (mVar 0) (mC (.int 2)))) (mAsg (mBin gMod (mAp (g1 gInt) (mCons (mBin gAdd (mBin gAdd (mBin gMul (mBin gIx (mVar 0) (mC (.int 3))) (mC (.int 38561))) (mBin gMul (mBin gMod (mAp (g1 gInt) (mCons (mVar 3) mNil)) (mC (.int 2147483423))) (mC (.int 27947)))) (mC (.int 83))) mNil)) (mC (.int 2147483629))) (gSubI (mVar 0) (mC (.int 3))))))) mSkip)
  (mSeq (mIf (mBT gGt (mBin gIx (mVar 0) (mC (.int 2))) (mC (.int 0))) (mSeq (mAsg (mBin gMod (mAp (g1 gInt) (mCons (mBin gIx (mVar 0) (mC (.int 2))) mNil)) (mVar 1)) (gNm 4))
  (mSeq (mAsg (mBin gDiv (mBin gIx (mVar 0) (mC (.int 2))) (mVar 1)) (gSubI (mVar 0) (mC (.int 2))))
  (mRet (mVar 4)))) mSkip)
  (mSeq (mAsg (mBin gIx (mVar 0) (mC (.int 3))) (gNm 2))
  (mSeq (mAsg (mBin gMod (mAp (g1 gInt) (mCons (mBin gAdd (mBin gAdd (mBin gAdd (mBin gMul (mBin gMul (mVar 2) (mVar 2)) (mC (.int 13))) (mBin gMul (mVar 2) (mC (.int 40961)))) (mBin gMul (mBin gIx (mVar 0) (mC (.int 4))) (mC (.int 1299689)))) (mC (.int 60649))) mNil)) (mC (.int 2147483629))) (gSubI (mVar 0) (mC (.int 3))))
  (mRet (mBin gMod (mAp (g1 gInt) (mCons (mBin gAdd (mBin gDiv (mBin gIx (mVar 0) (mC (.int 3))) (mC (.int 89))) (mBin gMul (mBin gMod (mAp (g1 gInt) (mCons (mBin gIx (mVar 0) (mC (.int 3))) mNil)) (mC (.int 7907))) (mC (.int 71)))) mNil)) (mVar 1))))))))
def G__law_draw : Fn := runB 5 sh__law_draw
def sh__law_one : SS := (mRet (mBin gIx (mVar 1) (mAp G__law_draw (mCons (mVar 0) (mCons (mAp (g1 gLen) (mCons (mVar 1) mNil)) mNil)))))
def G__law_one : Fn := runB 2 sh__law_one
def sh__law_same (G__law_same' : Fn) : SS := (mSeq (mIf (mTru (mAp (gIsi ktB) (mCons (mVar 1) (mCons (mAp gTup (mCons (mC (.ty "list")) (mCons (mC (.ty "tuple")) mNil))) mNil)))) (mSeq (mIf (mOrT (mBT (gEq true) (mAp (gIsi ktB) (mCons (mVar 0) (mCons (mC (.ty "list")) mNil))) (mAp (gIsi ktB) (mCons (mVar 1) (mCons (mC (.ty "list")) mNil)))) (mBT (gEq true) (mAp (gIsi ktB) (mCons (mVar 0) (mCons (mC (.ty "tuple")) mNil))) (mAp (gIsi ktB) (mCons (mVar 1) (mCons (mC (.ty "tuple")) mNil))))) (mRet (mC (.bl false))) mSkip)
  (mRet (mAndV (mBin (gEq false) (mAp (g1 gLen) (mCons (mVar 0) mNil)) (mAp (g1 gLen) (mCons (mVar 1) mNil))) (mAp (g1 gAll) (mCons (mLc (mZip (mCons (mVar 0) (mCons (mVar 1) mNil))) [2, 3] (gTp 2 (gCons (gNm 2) (gCons (gNm 3) gNil))) mYes (mAp G__law_same' (mCons (mVar 2) (mCons (mVar 3) mNil)))) mNil))))) mSkip)
  (mSeq (mIf (mOrT (mBT (gIs false) (mVar 1) (mC .non)) (mBT (gIs false) (mVar 0) (mC .non))) (mRet (mAndV (mBin (gIs false) (mVar 1) (mC .non)) (mBin (gIs false) (mVar 0) (mC .non)))) mSkip)
  (mSeq (mIf (mOrT (mBT (gEq true) (mAp (gIsi ktB) (mCons (mVar 1) (mCons (mC (.ty "bool")) mNil))) (mAp (gIsi ktB) (mCons (mVar 0) (mCons (mC (.ty "bool")) mNil)))) (mBT (gEq true) (mAp (gIsi ktB) (mCons (mVar 1) (mCons (mC (.ty "int")) mNil))) (mAp (gIsi ktB) (mCons (mVar 0) (mCons (mC (.ty "int")) mNil))))) (mRet (mC (.bl false))) mSkip)
  (mRet (mAndV (mBin (gEq false) (mAp (gIsi ktB) (mCons (mVar 1) (mCons (mC (.ty "str")) mNil))) (mAp (gIsi ktB) (mCons (mVar 0) (mCons (mC (.ty "str")) mNil)))) (mBin (gEq false) (mVar 0) (mVar 1)))))))
def G__law_same : Nat → Fn
  | 0 => fun _ _ => .bad
  | n + 1 => runB 4 (sh__law_same (G__law_same n))
def sh__law_words : SS := (mSeq (mAsg (mC (.str "bcdfghjklmnpqrstvwxyz")) (gNm 2))
  (mSeq (mAsg (mM1 gJoin (mC (.str "")) (mLc (mRange1 (mCons (mAp G__law_draw (mCons (mVar 0) (mCons (mC (.int 6)) mNil))) mNil)) [6] (gNm 6) mYes (mAp G__law_one (mCons (mVar 0) (mCons (mVar 2) mNil))))) (gNm 3))
  (mSeq (mAsg (mAp gTup (mCons (mAp G__law_draw (mCons (mVar 0) (mCons (mBin gAdd (mAp (g1 gLen) (mCons (mVar 3) mNil)) (mC (.int 1))) mNil))) (mCons (mAp G__law_draw (mCons (mVar 0) (mCons (mC (.int 21)) mNil))) mNil))) (gTp 2 (gCons (gNm 4) (gCons (gNm 5) gNil))))
  (mRet (mLc (mRange1 (mCons (mVar 1) mNil)) [6] (gNm 6) mYes (mBin gAdd (mBin gAdd (mSl (mVar 3) mNoPart (mPart (mVar 4))) (mBin gIx (mVar 2) (mBin gMod (mAp (g1 gInt) (mCons (mBin gAdd (mVar 5) (mBin gMul (mC (.int 5)) (mVar 6))) mNil)) (mC (.int 21))))) (mSl (mVar 3) (mPart (mVar 4)) mNoPart)))))))
def G__law_words : Fn := runB 7 sh__law_words
structure Bag where
  cells : List Int
  i : Int
  big : Int
  seed : Int
  cnt : Int
def Bag.ob (b : Bag) : Ob := .lst [.lst (b.cells.map .int), .int b.i, .int b.big, .int b.seed, .int b.cnt]
structure Bag.Ok (b : Bag) : Prop where
  i : 0 ≤ b.i
  big : 0 ≤ b.big
  s0 : 0 ≤ b.seed
  s1 : b.seed < 2147483629
theorem cMul_r {i j : Int} (h : -(2 ^ 64) < j) (h' : j < 2 ^ 64) : cMul i j = true := by
  simp only [cMul, Bool.or_eq_true, Bool.and_eq_true, decide_eq_true_eq]
  exact .inr ⟨h, h'⟩
theorem cMul_l {i j : Int} (h : -(2 ^ 64) < i) (h' : i < 2 ^ 64) : cMul i j = true := by
  simp only [cMul, Bool.or_eq_true, Bool.and_eq_true, decide_eq_true_eq]
  exact .inl ⟨h, h'⟩
section
variable {S : Store} {l : Nat} {b : Bag} {n : Int}
/-- the end of a draw -/
def DrawQ (S : Store) (l : Nat) (n : Int) (a : W) (T : Store) : Prop := ∃ k b', a = .int k ∧ T = S.set l (Bag.ob b') ∧ 0 ≤ k ∧ k < n ∧ Bag.Ok b'
theorem draw_ev (h : S[l]? = some b.ob) (hb : b.Ok) (h0 : 0 < n) (h1 : n < 1073741824) : Ev (G__law_draw [.ref l, .int n] S) (DrawQ S l n) := by
  obtain ⟨cells, i, big, seed, cnt⟩ := b
  obtain ⟨hi, hbig, hs0, hs1⟩ := hb
  dsimp only at hi hbig hs0 hs1
  have hl : l < S.length := by
    rcases Nat.lt_or_ge l S.length with z | z
    · exact z
    · rw [List.getElem?_eq_none z] at h; cases h
  have h := lstAt_get (ws := [.lst (cells.map .int), .int i, .int big, .int seed, .int cnt]) h
  have hm : ∀ x : Int, 0 ≤ x % 2147483629 ∧ x % 2147483629 < 2147483629 := fun x => ⟨Int.emod_nonneg _ (by decide), Int.emod_lt_of_pos _ (by decide)⟩
  have hn : ∀ x : Int, 0 ≤ x % n ∧ x % n < n := fun x => ⟨Int.emod_nonneg _ (by omega), Int.emod_lt_of_pos _ h0⟩
  have hsd : cMul seed seed = true := cMul_r (by omega) (by omega)
  have fin : ∀ x b', Bag.Ok b' → DrawQ S l n (.int (x % n)) (S.set l (Bag.ob b')) := fun x b' hb => ⟨_, _, rfl, rfl, (hn _).1, (hn _).2, hb⟩
  have e1 : ∀ x : Int, cMul x 38561 = true := fun x => cMul_r (by decide) (by decide)
  have e2 : ∀ x : Int, cMul x 27947 = true := fun x => cMul_r (by decide) (by decide)
  have e3 : ∀ x : Int, cMul x 13 = true := fun x => cMul_r (by decide) (by decide)
  have e4 : ∀ x : Int, cMul x 40961 = true := fun x => cMul_r (by decide) (by decide)
  have e5 : ∀ x : Int, cMul x 1299689 = true := fun x => cMul_r (by decide) (by decide)
  have e6 : ∀ x : Int, cMul x 71 = true := fun x => cMul_r (by decide) (by decide)
  by_cases c1 : big = 0 ∧ i < cells.length
  · obtain ⟨c1, c2⟩ := c1
    subst c1
    obtain ⟨cell, hc⟩ : ∃ c, cells[i.toNat]? = some c := ⟨_, List.getElem?_eq_getElem (by omega)⟩
    have hat : atI (cells.map W.int) i = some (.int cell) := by rw [atI_nat hi, List.getElem?_map, hc]; rfl
    by_cases c3 : 1000000000000000000 ≤ cell
    · have : 0 < cell := by omega
      simp [G__law_draw, runB, startW, sh__law_draw, h, gSetI_eq, hl, hat, ixN, c2, c3, this, h0, h1]
      exact fin cell ⟨cells, i + 1, cell / n, seed, cnt + 1⟩ ⟨by dsimp; omega, Int.ediv_nonneg (by omega) (by omega), hs0, hs1⟩
    · have hsd2 := fun x : Int => cMul_r (i := x % 2147483629) (j := x % 2147483629) (by have := hm x; omega) (by have := hm x; omega)
      simp [G__law_draw, runB, startW, sh__law_draw, h, gSetI_eq, hl, hat, ixN, c2, c3, h0, h1, e1, e2, e3, e4, e5, e6, hsd2]
      exact fin _ ⟨cells, i + 1, 0, _, cnt + 1⟩ ⟨by dsimp; omega, Int.le_refl 0, (hm _).1, (hm _).2⟩
  · by_cases c4 : 0 < big
    · have : ¬ big = 0 := by omega
      simp [G__law_draw, runB, startW, sh__law_draw, h, gSetI_eq, hl, ixN, this, c4, h0, h1]
      exact fin _ ⟨cells, i, big / n, seed, cnt + 1⟩ ⟨hi, Int.ediv_nonneg (by omega) (by omega), hs0, hs1⟩
    · have : big = 0 := by omega
      subst this
      have c2 : ¬ i < cells.length := fun z => c1 ⟨rfl, z⟩
      simp [G__law_draw, runB, startW, sh__law_draw, h, gSetI_eq, hl, ixN, c2, h0, h1, e1, e2, e3, e4, e5, e6, hsd]
      exact fin _ ⟨cells, i, 0, _, cnt + 1⟩ ⟨hi, Int.le_refl 0, (hm _).1, (hm _).2⟩
theorem draw_ok (h : S[l]? = some b.ob) (hb : b.Ok) (h0 : 0 < n) (h1 : n < 1073741824) : ∃ k b', 0 ≤ k ∧ k < n ∧ Bag.Ok b' ∧ G__law_draw [.ref l, .int n] S = .ok (.int k) (S.set l b'.ob) := by
  obtain ⟨a, T, e, k, b', rfl, rfl, h2, h3, h4⟩ := (draw_ev h hb h0 h1).ex
  exact ⟨k, b', h2, h3, h4, e⟩
end
section
variable {S : Store} {l : Nat} {b : Bag} {n : Int}
theorem ev_draw {Q : W → Store → Prop} (h : S[l]? = some b.ob) (hb : b.Ok) (h0 : 0 < n) (h1 : n < 1073741824) (k : ∀ (i : Nat) b', (i : Int) < n → Bag.Ok b' → Q (.int i) (S.set l b'.ob)) : Ev (G__law_draw [.ref l, .int n] S) Q := by
  obtain ⟨j, b', h2, h3, h4, e⟩ := draw_ok h hb h0 h1
  rw [e]
  obtain ⟨i, rfl⟩ := Int.eq_ofNat_of_zero_le h2
  exact k i b' h3 h4
theorem ev_one {Q : W → Store → Prop} {ws : List W} {w : W} (hw : w = .lst ws ∨ w = .tup ws) (h : S[l]? = some b.ob) (hb : b.Ok) (h0 : ws ≠ []) (h1 : ws.length < 1073741824) (k : ∀ u b', u ∈ ws → Bag.Ok b' → Q u (S.set l b'.ob)) : Ev (G__law_one [.ref l, w] S) Q := by
  have e0 : ∀ T, gLen w T = .ok (.int ws.length) T := by rcases hw with rfl | rfl <;> intro T <;> rfl
  have hp : 0 < ws.length := List.length_pos_iff.mpr h0
  have e1 : ∀ (i : Nat) T, (i : Int) < ws.length → ∃ u, u ∈ ws ∧ gIx w (.int i) T = .ok u T := by
    intro i T hi
    have hi : i < ws.length := by omega
    refine ⟨ws[i], List.getElem_mem _, ?_⟩
    have : atI ws (i : Int) = some ws[i] := by rw [atI_nat (Int.natCast_nonneg i), Int.toNat_natCast]; exact List.getElem?_eq_getElem hi
    rcases hw with rfl | rfl <;> simp [this]
  simp only [G__law_one, runB_eq, startW, sh__law_one, mRet_eq, mBin_eq, mAp_eq, mCons_eq, ev_bind, ev_ok, mVar_0, mVar_s, mNil_eq, g1_eq, List.map_cons, List.map_nil, List.append_nil, List.cons_append, e0, Nat.zero_add]
  refine ev_draw h hb (by omega) (by omega) fun i b' hi hb' => ?_
  obtain ⟨u, hu, e⟩ := e1 i (S.set l b'.ob) hi
  simp only [e, ev_ok, runK_rt]
  exact k u b' hu hb'
theorem ev_one_str {Q : W → Store → Prop} {a : List Nat} (h : S[l]? = some b.ob) (hb : b.Ok) (h0 : a ≠ []) (h1 : a.length ≤ lim) (k : ∀ c b', c ∈ a → Bag.Ok b' → Q (.str (tx [c])) (S.set l b'.ob)) : Ev (G__law_one [.ref l, .str (tx a)] S) Q := by
  have hp : 0 < a.length := List.length_pos_iff.mpr h0
  have hlim : lim = 16777216 := rfl
  simp only [G__law_one, runB_eq, startW, sh__law_one, mRet_eq, mBin_eq, mAp_eq, mCons_eq, ev_bind, ev_ok, mVar_0, mVar_s, mNil_eq, g1_eq, List.map_cons, List.map_nil, List.append_nil, List.cons_append, gLen_str, tx_len, h1, if_true, Nat.zero_add]
  refine ev_draw h hb (by omega) (by omega) fun i b' hi hb' => ?_
  have hi : i < a.length := by omega
  have : atI a (i : Int) = some a[i] := by rw [atI_nat (Int.natCast_nonneg i), Int.toNat_natCast]; exact List.getElem?_eq_getElem hi
  simp only [gIx_str', tx_len, h1, if_true, tx_list, this, ev_ok, runK_rt]
  exact k a[i] b' (List.getElem_mem _) hb'
end

section
variable {S : Store}
theorem cells_loop : ∀ (ns : List Int) (x : W) (seed : Int) (o : Option W), 0 ≤ seed → seed < 2147483629 → ∃ (seed' : Int) (o' : Option W), 0 ≤ seed' ∧ seed' < 2147483629 ∧
    mForL (gNm 2) (mAsg (mBin gMod (mAp (g1 gInt) (mCons (mBin gAdd (mBin gAdd (mBin gMul (mVar 1) (mC (.int 43987))) (mBin gMod (mAp (g1 gInt) (mCons (mVar 2) mNil)) (mC (.int 2147483423)))) (mC (.int 61))) mNil)) (mC (.int 2147483629))) (gNm 1)) (ns.map W.int) [some x, some (.int seed), o] S = .ok (.nx, [some x, some (.int seed'), o']) S
  | [], x, seed, o, h0, h1 => ⟨seed, o, h0, h1, rfl⟩
  | n :: r, x, seed, o, h0, h1 => by
    have e1 : cMul seed 43987 = true := cMul_r (by decide) (by decide)
    obtain ⟨seed', o', h2, h3, e⟩ := cells_loop r x ((seed * 43987 + n % 2147483423 + 61) % 2147483629) (some (.int n)) (Int.emod_nonneg _ (by decide)) (Int.emod_lt_of_pos _ (by decide))
    refine ⟨seed', o', h2, h3, ?_⟩
    rw [← e, List.map_cons]
    simp [mForL, e1]
theorem cells_ok {ns : List Int} (h : ns.length ≤ 63) : ∃ b, Bag.Ok b ∧ G__law_cells [.flst (ns.map .int)] S = .ok (.ref S.length) (S ++ [b.ob]) := by
  obtain ⟨seed', o', h2, h3, e⟩ := cells_loop (S := S) ns (.flst (ns.map .int)) 5741 none (by decide) (by decide)
  have hc : cutW (ns.map W.int) none (some 63) = ns.map W.int := by
    unfold cutW
    have : min 63 ns.length = ns.length := by omega
    simp only [HT.sIx, List.length_map, Nat.sub_zero, List.drop_zero, show ¬ ((63 : Int) < 0) by decide, if_false, show (63 : Int).toNat = 63 from rfl, this]
    exact List.take_of_length_le (by rw [List.length_map]; exact Nat.le_refl _)
  refine ⟨⟨ns, 0, 0, seed', 0⟩, ⟨Int.le_refl 0, Int.le_refl 0, h2, h3⟩, ?_⟩
  simp [G__law_cells, runB_eq, startW, sh__law_cells, hc, e, Bag.ob]
end
/-! ### equality of plain values -/
def plainW : Nat → W → Bool
  | 0, _ => false
  | n + 1, w => match w with
    | .non | .bl _ | .int _ | .str _ => true
    | .lst ws => decide (ws.length ≤ lim) && ws.all (plainW n)
    | .tup ws => decide (ws.length ≤ lim) && ws.all (plainW n)
    | _ => false
theorem zipW_self (ws : List W) : zipW ws ws = ws.map fun w => .tup [w, w] := by
  induction ws with
  | nil => rfl
  | cons w r ih =>
    have : zipW (w :: r) (w :: r) = .tup [w, w] :: zipW r r := rfl
    rw [this, ih]
    rfl
theorem blsW_map {α : Type} (f : α → Bool) (ws : List α) : blsW (ws.map fun w => W.bl (f w)) = some (ws.map f) := by
  induction ws with
  | nil => rfl
  | cons w r ih => simp [blsW, ih]
theorem blsW_map' (ws : List Bool) : blsW (ws.map W.bl) = some ws := by simpa using blsW_map id ws
theorem same_self : ∀ (n : Nat) (w : W), plainW n w = true → ∀ S, G__law_same n [w, w] S = .ok (.bl true) S
  | 0, w, h => by cases h
  | n + 1, w, h => fun S => by
    have inner : ∀ (ws : List W), ws.all (plainW n) = true → ws.length ≤ lim → ∀ (T : Store) (a b : Option W), mLcL (gTp 2 (gCons (gNm 2) (gCons (gNm 3) gNil))) mYes (mAp (G__law_same n) (mCons (mVar 2) (mCons (mVar 3) mNil))) [a, b, none, none] (zipW ws ws) [] T = .ok (ws.map fun _ => .bl true) T := by
      intro ws hw hl T a b
      rw [zipW_self, lcL_pure (fun _ => .bl true) _ [] (by simpa using hl) fun u hu => ?_]
      · simp
      · obtain ⟨v, hv, rfl⟩ := List.mem_map.mp hu
        refine ⟨[a, b, some v, some v], by simp, ?_⟩
        have := same_self n v (List.all_eq_true.mp hw v hv) T
        simp [this]
    have isi : ∀ (t : String) (w : W) (x : String) (b : Bool) T, tyOf T w = some (.ty t) → ktB (.ty t) (.ty x) = some b → gIsi ktB [w, .ty x] T = .ok (.bl b) T := by
      intro t w x b T h1 h2
      simp [gIsi, gIsi1, h1, isCls, h2]
    have isi2 : ∀ (t : String) (w : W) (b b' : Bool) T, tyOf T w = some (.ty t) → ktB (.ty t) (.ty "list") = some b → ktB (.ty t) (.ty "tuple") = some b' → gIsi ktB [w, .tup [.ty "list", .ty "tuple"]] T = .ok (.bl (b || b')) T := by
      intro t w b b' T h1 h2 h3
      cases b <;> cases b' <;> simp [gIsi, gIsi1, h1, isCls, tupL, ktAny, h2, h3]
    have seqs : ∀ (ws : List W), ws.all (plainW n) = true → ws.length ≤ lim → G__law_same (n + 1) [.lst ws, .lst ws] S = .ok (.bl true) S ∧ G__law_same (n + 1) [.tup ws, .tup ws] S = .ok (.bl true) S := by
      intro ws hw hl
      refine ⟨?_, ?_⟩
      · have i1 := isi "list" (.lst ws) "list" true S rfl rfl
        have i2 := isi "list" (.lst ws) "tuple" false S rfl rfl
        have i3 := isi2 "list" (.lst ws) true false S rfl rfl rfl
        simp [G__law_same, runB_eq, startW, sh__law_same, i1, i2, i3, inner ws hw hl, blsW_map, truW, wipeW, gAll]
      · have i1 := isi "tuple" (.tup ws) "list" false S rfl rfl
        have i2 := isi "tuple" (.tup ws) "tuple" true S rfl rfl
        have i3 := isi2 "tuple" (.tup ws) false true S rfl rfl rfl
        simp [G__law_same, runB_eq, startW, sh__law_same, i1, i2, i3, inner ws hw hl, blsW_map, truW, wipeW, gAll]
    cases w with
    | lst ws => rw [plainW, Bool.and_eq_true, decide_eq_true_eq] at h; exact (seqs ws h.2 h.1).1
    | tup ws => rw [plainW, Bool.and_eq_true, decide_eq_true_eq] at h; exact (seqs ws h.2 h.1).2
    | non =>
      have i3 := isi2 "NoneType" .non false false S rfl rfl rfl
      simp [G__law_same, runB_eq, startW, sh__law_same, i3, truW, isNonW]
    | bl b =>
      have i1 := isi "bool" (.bl b) "bool" true S rfl rfl
      have i2 := isi "bool" (.bl b) "int" true S rfl rfl
      have i4 := isi "bool" (.bl b) "str" false S rfl rfl
      have i3 := isi2 "bool" (.bl b) false false S rfl rfl rfl
      simp [G__law_same, runB_eq, startW, sh__law_same, i1, i2, i3, i4, truW, isNonW]
    | int b =>
      have i1 := isi "int" (.int b) "bool" false S rfl rfl
      have i2 := isi "int" (.int b) "int" true S rfl rfl
      have i4 := isi "int" (.int b) "str" false S rfl rfl
      have i3 := isi2 "int" (.int b) false false S rfl rfl rfl
      simp [G__law_same, runB_eq, startW, sh__law_same, i1, i2, i3, i4, truW, isNonW]
    | str b =>
      have i1 := isi "str" (.str b) "bool" false S rfl rfl
      have i2 := isi "str" (.str b) "int" false S rfl rfl
      have i4 := isi "str" (.str b) "str" true S rfl rfl
      have i3 := isi2 "str" (.str b) false false S rfl rfl rfl
      simp [G__law_same, runB_eq, startW, sh__law_same, i1, i2, i3, i4, truW, isNonW]
    | _ => cases h
/-! ### words -/
def consL : List Nat := [98, 99, 100, 102, 103, 104, 106, 107, 108, 109, 110, 112, 113, 114, 115, 116, 118, 119, 120, 121, 122]
theorem cons_eq : Str.ofString "bcdfghjklmnpqrstvwxyz" = tx consL := lit_eq (by decide +kernel)
def wordL (stem : List Nat) (at' first k : Nat) : List Nat := stem.take at' ++ (consL[(first + 5 * k) % 21]?.toList ++ stem.drop at')
/-- what a row of words is -/
structure Words (ws : List (List Nat)) (m : Nat) : Prop where
  ex : ∃ (stem : List Nat) (at' first : Nat), (∀ c, c ∈ stem → c ∈ consL) ∧ stem.length ≤ 5 ∧ at' ≤ stem.length ∧ first < 21 ∧ ws = (List.range m).map (wordL stem at' first)
section
variable {S : Store} {l : Nat} {b : Bag}
theorem joinL_nil : ∀ cs : List Nat, TL.joinL [] (cs.map fun c => [c]) = cs
  | [] => rfl
  | [c] => rfl
  | c :: d :: r => by
    have := joinL_nil (d :: r)
    rw [List.map_cons] at this ⊢
    simp [TL.joinL] at this ⊢
    exact this
theorem get_len {S : Store} {l : Nat} {o : Ob} (h : S[l]? = some o) : l < S.length := by
  rcases Nat.lt_or_ge l S.length with z | z
  · exact z
  · rw [List.getElem?_eq_none z] at h; cases h
theorem sum1 : ∀ cs : List Nat, ((((cs.map fun c => [c]).map tx).map (·.length))).sum = cs.length
  | [] => rfl
  | c :: r => by
    have := sum1 r
    rw [List.map_cons, List.map_cons, List.map_cons, List.sum_cons, this, tx_len]
    simp only [List.length_cons, List.length_nil]
    omega
theorem ev_words {Q : W → Store → Prop} {m : Nat} (hm : m ≤ 1000) (h : S[l]? = some b.ob) (hb : b.Ok) (k : ∀ ws b', Words ws m → Bag.Ok b' → Q (.lst (ws.map fun a => .str (tx a))) (S.set l b'.ob)) : Ev (G__law_words [.ref l, .int m] S) Q := by
  have hl := get_len h
  have get : ∀ b', (S.set l (Bag.ob b'))[l]? = some b'.ob := fun b' => List.getElem?_set_self hl
  simp only [G__law_words, runB_eq, sh__law_words, cons_eq, ev_bind, mSeq_eq, mAsg_eq, mC_eq, ev_ok, gNm_eq, startW, List.map_cons, List.map_nil, List.length_cons, List.length_nil, List.replicate, List.cons_append, List.nil_append, List.set_cons_succ, List.set_cons_zero, seqK_nx, mM1_eq, mLc_eq, mRange1_eq, mAp_eq, mCons_eq, mVar_0, mVar_s, mNil_eq]
  refine ev_draw h hb (by decide) (by decide) fun j b1 hj hb1 => ?_
  have hj6 : j ≤ 5 := by omega
  have ok1 : okR (j : Int) = true := by simp [okR]; omega
  simp only [rng1_eq, ok1, if_true, ev_ok, mLcI_fix, Int.toNat_natCast, wipeW, List.set_cons_succ, List.set_cons_zero]
  refine Ev.mono (lcL_ev (fun r acc T => ∃ cs b', (∀ c, c ∈ cs → c ∈ consL) ∧ cs.length + r.length ≤ 5 ∧ Bag.Ok b' ∧ T = S.set l b'.ob ∧ acc = cs.map fun c => .str (tx [c])) ?_ _ _ _ ⟨[], b1, nofun, by simp [rngW]; exact hj6, hb1, rfl, rfl⟩) ?_
  · rintro w r acc T ⟨cs, b', h1, h2, h3, rfl, rfl⟩
    rw [List.length_cons] at h2
    simp only [mLcT_eq, gNm_eq, nox_ok, ok_bind, mYes_eq, if_true, ev_bind, ev_nox, List.set_cons_succ, List.set_cons_zero, mAp_eq, mCons_eq, mVar_0, mVar_s, mNil_eq, ev_ok]
    refine ev_one_str (get b') h3 (by decide) (by decide) fun c b2 hc hb2 => ?_
    have : (cs.map fun c => W.str (tx [c])).length < lim := by rw [List.length_map]; show cs.length < 16777216; omega
    rw [if_pos this]
    refine ⟨cs ++ [c], b2, fun d hd => ?_, by simp; omega, hb2, by rw [List.set_set], by simp⟩
    rcases List.mem_append.mp hd with z | z
    · exact h1 d z
    · rw [List.mem_singleton.mp z]; exact hc
  rintro acc T ⟨stem, b2, hst, hlen, hb2, rfl, rfl⟩
  have hlen : stem.length ≤ 5 := by simpa using hlen
  have sw : strsW (stem.map fun c => .str (tx [c])) = some ((stem.map fun c => [c]).map tx) := by
    have := strsW_map (ys := stem.map fun c => [c])
    rw [List.map_map] at this
    exact this
  have sm : ((((stem.map fun c => [c]).map tx).map (·.length)).sum + ((stem.map fun c => [c]).map tx).length * ([] : List Nat).length) ≤ lim := by
    have : ((((stem.map fun c => [c]).map tx).map (·.length))).sum = stem.length := by
      exact sum1 stem
    rw [this]
    show stem.length + _ * 0 ≤ 16777216
    omega
  have ln : stem.length ≤ lim := by show stem.length ≤ 16777216; omega
  have ln2 : (2 : Nat) ≤ lim := by decide
  simp only [gJoin_eq, seqA, tupL, seqL_lst, Option.none_or, Option.bind_some, sw, show (Str.ofString "") = tx [] from lit_eq rfl, sm, if_true, ev_ok, join_tx, joinL_nil, List.set_cons_succ, List.set_cons_zero, seqK_nx, mSeq_eq, mAsg_eq, mAp_eq, mCons_eq, mVar_0, mVar_s, mNil_eq, mC_eq, mBin_eq, ev_bind, g1_eq, gLen_str, tx_len, ln, gAdd_int]
  refine ev_draw (n := (stem.length : Int) + 1) (get b2) hb2 (by omega) (by omega) fun at' b3 hat hb3 => ?_
  refine ev_draw (by rw [List.set_set]; exact get b3) hb3 (by decide) (by decide) fun first b4 hfi hb4 => ?_
  have hat : at' ≤ stem.length := by omega
  have hfi : first < 21 := by omega
  have ok2 : okR (m : Int) = true := by simp [okR]; omega
  simp only [gTup_eq, List.length_cons, List.length_nil, Nat.zero_add, Nat.reduceAdd, ln2, if_true, ev_ok, gTp_eq, gCons_eq, gNm_eq, gNil_eq, ok_bind, List.set_cons_succ, List.set_cons_zero, seqK_nx, mRet_eq, ev_bind, mLc_eq, mRange1_eq, mCons_eq, mVar_0, mVar_s, mNil_eq, rng1_eq, ok2, mLcI_fix, Int.toNat_natCast, wipeW, List.set_set]
  have body : ∀ (i : Nat), i < m → ∀ T a b, (mBin gAdd (mBin gAdd (mSl (mVar 3) mNoPart (mPart (mVar 4))) (mBin gIx (mVar 2) (mBin gMod (mAp (g1 gInt) (mCons (mBin gAdd (mVar 5) (mBin gMul (mC (.int 5)) (mVar 6))) mNil)) (mC (.int 21))))) (mSl (mVar 3) (mPart (mVar 4)) mNoPart)) [a, b, some (.str (tx consL)), some (.str (tx stem)), some (.int at'), some (.int first), some (.int i)] T = .ok (.str (tx (wordL stem at' first i))) T := by
    intro i hi T a b
    have hm : cMul 5 (i : Int) = true := cMul_l (by decide) (by decide)
    have hx : (((first : Int) + 5 * (i : Int)) % 21) = (((first + 5 * i) % 21 : Nat) : Int) := by omega
    have h21 : (first + 5 * i) % 21 < consL.length := Nat.mod_lt _ (by decide)
    have hc := List.getElem?_eq_getElem h21
    have hat2 : atI consL (((first : Int) + 5 * (i : Int)) % 21) = some consL[(first + 5 * i) % 21] := by
      rw [hx, RL.atI_nat (Int.natCast_nonneg _), Int.toNat_natCast]
      exact hc
    have hw : wordL stem at' first i = stem.take at' ++ (consL[(first + 5 * i) % 21] :: stem.drop at') := by
      unfold wordL
      rw [hc]
      rfl
    have hs1 : min at' stem.length + 1 ≤ lim := by show _ ≤ 16777216; omega
    have hs2 : min at' stem.length + 1 + (stem.length - at') ≤ lim := by show _ ≤ 16777216; omega
    have l21 : consL.length ≤ lim := by decide
    simp [hm, ln, hat2, hs1, hs2, l21, hw]
  have loop : ∀ T a b, mLcL (gNm 6) mYes (mBin gAdd (mBin gAdd (mSl (mVar 3) mNoPart (mPart (mVar 4))) (mBin gIx (mVar 2) (mBin gMod (mAp (g1 gInt) (mCons (mBin gAdd (mVar 5) (mBin gMul (mC (.int 5)) (mVar 6))) mNil)) (mC (.int 21))))) (mSl (mVar 3) (mPart (mVar 4)) mNoPart)) [a, b, some (.str (tx consL)), some (.str (tx stem)), some (.int at'), some (.int first), none] (rngW 0 m) [] T = .ok ((rngW 0 m).map fun w => match w with
      | .int i => .str (tx (wordL stem at' first i.toNat))
      | w => w) T := by
    intro T a b
    rw [lcL_pure (fun w => match w with
      | .int i => .str (tx (wordL stem at' first i.toNat))
      | w => w) _ [] (by simp [rngW]; show m ≤ 16777216; omega) fun u hu => ?_]
    · simp
    · obtain ⟨i, hi, rfl⟩ := List.mem_map.mp hu
      refine ⟨[a, b, some (.str (tx consL)), some (.str (tx stem)), some (.int at'), some (.int first), some (.int i)], by simp, ?_⟩
      rw [body i (List.mem_range.mp hi)]
      simp
  rw [loop]
  simp only [ev_ok, runK_rt]
  have := k ((List.range m).map (wordL stem at' first)) b4 ⟨stem, at', first, hst, hlen, hat, hfi, rfl⟩ hb4
  simpa [rngW, Function.comp_def] using this
end
/-! ### names -/
def lettersL : List Nat := [97, 98, 99, 100, 101, 102, 103, 104, 105, 106, 107, 108, 109, 110, 111, 112, 113, 114, 115, 116, 117, 118, 119, 120, 121, 122]
theorem letters_eq : c_LETTERS = .str (tx lettersL) := congrArg W.str (lit_eq (by decide +kernel))
def reservedL : List (List Nat) := (["all", "none", "closed", "open", "rim", "within", "is", "empty", "if", "else", "end", "repeat", "call", "program", "inputs", "outputs", "self"] : List String).map fun x => x.toList.map Char.toNat
theorem reserved_eq : c_RESERVED = .tup ((reservedL.map tx).map W.str) := by
  have : ∀ ys : List String, ys.map (fun x => Str.ofString x) = (ys.map fun x => x.toList.map Char.toNat).map tx := by
    intro ys
    rw [List.map_map]
    exact List.map_congr_left fun x _ => lit_eq rfl
  exact congrArg (fun z => W.tup (z.map W.str)) (this ["all", "none", "closed", "open", "rim", "within", "is", "empty", "if", "else", "end", "repeat", "call", "program", "inputs", "outputs", "self"])
/-- whether these signs are a name -/
def nameL (a : List Nat) : Bool := decide (1 ≤ a.length) && decide (a.length ≤ 6) && !decide (a ∈ reservedL) && a.all fun c => decide (c ∈ lettersL)
section
variable {S : Store} {a : List Nat}
theorem isi_str {x : Str} : gIsi ktB [.str x, .ty "str"] S = .ok (.bl true) S := by
  simp [gIsi, gIsi1, tyOf, isCls, show ktB (.ty "str") (.ty "str") = some true from rfl]
theorem is_name_tx (h : a.length ≤ lim) : G_is_name [.str (tx a)] S = .ok (.bl (nameL a)) S := by
  have hres : ∀ T, gIn false (.str (tx a)) c_RESERVED T = .ok (.bl (decide (a ∈ reservedL))) T := by
    intro T
    rw [reserved_eq, gIn_strs (ys := reservedL.map tx) rfl]
    have : decide (tx a ∈ reservedL.map tx) = decide (a ∈ reservedL) := by
      rw [decide_eq_decide, List.mem_map]
      exact ⟨fun ⟨b, hb, e⟩ => by rw [← tx_inj.mp e]; exact hb, fun hb => ⟨a, hb, rfl⟩⟩
    rw [this, xorB_f]
  have loop : ∀ o T, mLcL (gNm 1) mYes (mBin (gIn false) (mVar 1) (mC c_LETTERS)) [o, none] (a.map fun c => .str (tx [c])) [] T = .ok (a.map fun c => .bl (decide (c ∈ lettersL))) T := by
    intro o T
    rw [lcL_pure (fun w => match w with
      | .str x => .bl (x.cps.toList.all fun c => decide (c ∈ lettersL))
      | w => w) _ [] (by simpa using h) fun u hu => ?_]
    · rw [List.nil_append, List.map_map]
      refine congrArg (fun z => Res.ok z T) (List.map_congr_left fun c _ => ?_)
      show W.bl ((tx [c]).cps.toList.all _) = _
      rw [tx_list]
      simp
    · obtain ⟨c, hc, rfl⟩ := List.mem_map.mp hu
      refine ⟨_, rfl, ?_⟩
      show _ = Res.ok (W.bl ((tx [c]).cps.toList.all _)) T
      rw [tx_list]
      simp [letters_eq, gIn_sign]
  have bs : ∀ f : Nat → Bool, blsW (a.map fun c => .bl (f c)) = some (a.map f) := fun f => blsW_map f a
  by_cases h1 : 1 ≤ a.length
  · by_cases h6 : a.length ≤ 6
    · by_cases hr : a ∈ reservedL
      · simp [G_is_name, runB_eq, startW, sh_is_name, isi_str, truW, h, h1, h6, hres, hr, nameL, c_MOST_LETTERS]
        simp [show (1 : Int) ≤ (a.length : Int) from by omega, show (a.length : Int) ≤ 6 from by omega, hres, hr]
      · simp [G_is_name, runB_eq, startW, sh_is_name, isi_str, truW, h, h1, h6, hres, hr, nameL, c_MOST_LETTERS, show (1 : Int) ≤ (a.length : Int) from by omega, show (a.length : Int) ≤ 6 from by omega, loop, wipeW, gAll, bs]
    · simp [G_is_name, runB_eq, startW, sh_is_name, isi_str, truW, h, h1, h6, nameL, c_MOST_LETTERS, show (1 : Int) ≤ (a.length : Int) from by omega, show ¬ (a.length : Int) ≤ 6 from by omega]
  · simp [G_is_name, runB_eq, startW, sh_is_name, isi_str, truW, h, h1, nameL, c_MOST_LETTERS, show ¬ (1 : Int) ≤ (a.length : Int) from by omega]
end
theorem is_name_no {S : Store} {w : W} {t : String} (h1 : tyOf S w = some (.ty t)) (h2 : ktB (.ty t) (.ty "str") = some false) : G_is_name [w] S = .ok (.bl false) S := by
  have : gIsi ktB [w, .ty "str"] S = .ok (.bl false) S := by simp [gIsi, gIsi1, h1, isCls, h2]
  simp [G_is_name, runB_eq, startW, sh_is_name, this, truW]
theorem reserved_ws : ((["all", "none", "closed", "open", "rim", "within", "is", "empty", "if", "else", "end", "repeat", "call", "program", "inputs", "outputs", "self"] : List Str).map W.str) = (reservedL.map tx).map W.str := W.tup.inj reserved_eq
theorem lit_tx (x : String) : Str.ofString x = tx (x.toList.map Char.toNat) := lit_eq rfl
end LC
end

section
set_option maxRecDepth 100000
set_option maxHeartbeats 4000000
/-! sets made of lists -/
namespace RS
open PySem PySem.Spec PyProof.Rows L2
section
variable {P : Program} {w : World} {A : Around} {E : Value → Shared → Prop} {s : Shared}
abbrev emp (w : World) : Obj := { cls := .type "set", dict := none, data := .set #[] 0 (.fresh 0 0 (!w.params.followText "set-order")) }
abbrev lit (l : Addr) : Obj := { cls := .type "list_iterator", data := .fields #[.ref l, .int 0 0] }
/-- the new set at S, walked into from the list at l -/
abbrev hp2 (w : World) (h : Heap) (l : Addr) : Heap := (h.push (emp w)).push (lit l)
structure Kept (s t : Shared) : Prop where
  g : t.gens = s.gens
  d : t.drawn = s.drawn
  o : t.os = s.os
  h : ∀ b u, s.heap.get? b = some u → t.heap.get? b = some u
theorem set_list {l : Addr} {xs : Array Value} {Z : Heap → Prop} {Q : Value → Shared → Prop} (noh : A.handled = none) (isl : s.heap.IsList l xs)
    (loop : ∀ (B : Around) (t : Shared) (R : Result → Shared → Prop), B.handled = none → B.units ≤ A.units + 3 → t.heap = hp2 w s.heap l → t.gens = s.gens → t.drawn = s.drawn → t.os = s.os →
      (∀ t', Kept s t' → Z t'.heap → R (.ok (.ret .none)) t') → codeAny (model P w) B (.builtin "set.update.loop" ⟨[.ref s.heap.objs.size, .ref (s.heap.push (emp w)).objs.size], []⟩) R t)
    (fin : ∀ (g : Heap) (tk : Nat), Z g → (∀ b u, s.heap.get? b = some u → g.get? b = some u) → Q (.ref s.heap.objs.size) { s with heap := g, toks := tk }) :
    wpAny (model P w) A (call (.type "set") [.ref l]) Q E s := by
  obtain ⟨cc, tl, mro⟩ := F.called_set.mro
  have made := F.called_set.made
  have sub0 := F.called_set.sub
  refine wpAny_call (codeAny_of_tree ?_)
  change wpAny _ _ (callAny (.type "set") _) _ _ _
  refine wpAny_pure ⟨Code.quiet_builtin _ (by decide +kernel), ?_⟩
  refine codeAny_builtin F.entry_type_call ?_
  have wgt := weight_type_call_type "set" [.ref l] []
  rw [Around.under_plain wgt rfl]
  have q1 := F.called_set.notType
  have q2 := F.called_set.canCreate
  have q3 := F.typeCall_set_1 (.ref l)
  repeat (any_goals (first | assumption | wp_step))
  refine codeAny_mono (code_set_led1 (.ref l) (E := E) (Q₁ := fun v t => v = .ref s.heap.objs.size ∧ t = { s with heap := s.heap.push (emp w) }) ⟨rfl, rfl⟩) fun r t hr => ?_
  match r, hr with
  | .error e, hr => exact hr
  | .ok (.ret obj), hr =>
    obtain ⟨rfl, rfl⟩ := hr
    have atS : (s.heap.push (emp w)).get? s.heap.objs.size = some (emp w) := Heap.get?_push_size _ rfl
    have tyS : Shared.TypeIs { s with heap := s.heap.push (emp w) } (.ref s.heap.objs.size) "set" := ⟨_, atS, rfl⟩
    have i1 := F.called_set.init.lookup
    have i2 := F.called_set.init.bind (.ref s.heap.objs.size)
    repeat (any_goals (first | assumption | wp_step))
    refine codeAny_mono (codeAny_call_builtin (R := wants (fun r t => r = .none ∧ ∃ g tk, t = { s with heap := g, toks := tk } ∧ Z g ∧ ∀ b u, s.heap.get? b = some u → g.get? b = some u) E) F.called_set.init.plain F.entry_set_init (check_set_init_1 tyS ?_)) fun r t hr => ?_
    · obtain ⟨⟨ocls, odict, odata, oslots⟩, hol, hcl, nl, hdl⟩ := isl
      simp only at hcl hdl
      subst hcl; subst hdl
      have atl : (s.heap.push (emp w)).get? l = some { cls := .type "list", dict := odict, data := .seq xs nl, slots := oslots } := Heap.get?_push_of_some _ hol
      have n1 := F.sub_list_set
      have n2 := F.sub_list_frozenset
      have n3 : (Value.type "list" == Value.type "dict") = false := by decide
      have lst1 : (s.heap.push (emp w)).IsList l xs := ⟨_, atl, rfl, nl, rfl⟩
      unfold Builtin.«set.__init__» noKeywords Builtin.Frozenset.updateFrom
      generalize hPI : pyIter = PI
      wp_walk
      subst hPI
      refine wpAny_pyIter_list lst1 ?_
      refine wpAny_bind (wpAny_runValue ?_)
      refine loop _ _ _ (by simp [noh]) ?un rfl rfl rfl rfl fun t' k z => ?_
      case un => simp only [Around.in1_units]; omega
      obtain ⟨g, g2, d', tk', os'⟩ := t'
      obtain ⟨k1, k2, k3, k4⟩ := k
      dsimp only at k1 k2 k3
      subst k1; subst k2; subst k3
      change wpAny _ _ _ _ _ _
      refine wpAny_pure ?_
      change wpAny _ _ (ret Value.none) _ _ _
      exact wpAny_pure ⟨rfl, g, tk', rfl, z, k4⟩
    · match r, hr with
      | .error e, hr => exact hr
      | .ok (.ret v), hr =>
        obtain ⟨rfl, g, tk, rfl, z, k⟩ := hr
        repeat (any_goals (first | assumption | wp_step))
        exact fin _ _ z k
end
end RS
end

section
set_option maxRecDepth 100000
set_option maxHeartbeats 4000000
/-! orders, sorted lists -/
namespace OrdX
structure Tot {α : Type} (lt : α → α → Bool) : Prop where
  irr : ∀ a, lt a a = false
  tr : ∀ a b c, lt a b = true → lt b c = true → lt a c = true
  tri : ∀ a b, a ≠ b → lt a b = true ∨ lt b a = true
section
variable {α : Type} {lt : α → α → Bool}
theorem Tot.asym (o : Tot lt) {a b : α} (h : lt a b = true) : lt b a = false := by
  cases e : lt b a with
  | false => rfl
  | true => have := o.tr _ _ _ h e; rw [o.irr] at this; cases this
def insS (lt : α → α → Bool) (x : α) : List α → List α
  | [] => [x]
  | y :: r => if lt y x = true then y :: insS lt x r else x :: y :: r
def srt (lt : α → α → Bool) : List α → List α
  | [] => []
  | x :: r => insS lt x (srt lt r)
def insU (lt : α → α → Bool) (x : α) : List α → List α
  | [] => [x]
  | y :: r => if lt y x = true then y :: insU lt x r else if lt x y = true then x :: y :: r else y :: r
def usrt (lt : α → α → Bool) : List α → List α
  | [] => []
  | x :: r => insU lt x (usrt lt r)
theorem insS_perm (x : α) : ∀ l : List α, (insS lt x l).Perm (x :: l)
  | [] => List.Perm.refl _
  | y :: r => by
    unfold insS
    split
    · exact ((insS_perm x r).cons y).trans (List.Perm.swap x y r)
    · exact List.Perm.refl _
theorem srt_perm : ∀ l : List α, (srt lt l).Perm l
  | [] => List.Perm.refl _
  | x :: r => (insS_perm x _).trans ((srt_perm r).cons x)
theorem insS_pw (o : Tot lt) (x : α) : ∀ l : List α, l.Pairwise (fun a b => lt b a = false) → (insS lt x l).Pairwise fun a b => lt b a = false
  | [], _ => List.pairwise_singleton _ _
  | y :: r, h => by
    rw [List.pairwise_cons] at h
    unfold insS
    split
    · rename_i hy
      refine List.pairwise_cons.mpr ⟨fun z hz => ?_, insS_pw o x r h.2⟩
      rcases List.mem_cons.mp ((insS_perm x r).mem_iff.mp hz) with rfl | hz
      · exact o.asym hy
      · exact h.1 z hz
    · rename_i hy
      have hy : lt y x = false := by simpa using hy
      refine List.pairwise_cons.mpr ⟨fun z hz => ?_, List.pairwise_cons.mpr h⟩
      rcases List.mem_cons.mp hz with rfl | hz
      · exact hy
      · cases e : lt z x with
        | false => rfl
        | true =>
          have h1 := h.1 z hz
          by_cases hxy : y = x
          · subst hxy
            rw [h1] at e; cases e
          · rcases o.tri y x hxy with k | k
            · rw [hy] at k; cases k
            · have := o.tr _ _ _ e k
              rw [h1] at this; cases this
theorem srt_pw (o : Tot lt) : ∀ l : List α, (srt lt l).Pairwise fun a b => lt b a = false
  | [] => List.Pairwise.nil
  | x :: r => insS_pw o x _ (srt_pw o r)
/-- two sorted lists of the same things are the same -/
theorem sorted_eq (o : Tot lt) : ∀ {l m : List α}, l.Perm m → l.Pairwise (fun a b => lt b a = false) → m.Pairwise (fun a b => lt b a = false) → l = m
  | [], m, p, _, _ => by rw [List.nil_perm.mp p]
  | x :: l, [], p, _, _ => by have := p.length_eq; simp at this
  | x :: l, y :: m, p, h1, h2 => by
    rw [List.pairwise_cons] at h1 h2
    have e : x = y := by
      by_cases e : ∃ _ : x = y, True
      · exact e.1
      · have e : x ≠ y := fun z => e ⟨z, trivial⟩
        have a1 : x ∈ m := by
          rcases List.mem_cons.mp (p.mem_iff.mp List.mem_cons_self) with z | z
          · exact absurd z e
          · exact z
        have a2 : y ∈ l := by
          rcases List.mem_cons.mp (p.symm.mem_iff.mp List.mem_cons_self) with z | z
          · exact absurd z.symm e
          · exact z
        have b1 := h2.1 x a1
        have b2 := h1.1 y a2
        rcases o.tri x y e with z | z
        · rw [b1] at z; cases z
        · rw [b2] at z; cases z
    subst e
    rw [sorted_eq o (List.Perm.cons_inv p) h1.2 h2.2]
theorem srt_eq (o : Tot lt) {l m : List α} (p : m.Perm l) (h : m.Pairwise fun a b => lt b a = false) : m = srt lt l := sorted_eq o (p.trans (srt_perm l).symm) h (srt_pw o l)
theorem srt_of_perm (o : Tot lt) {l m : List α} (p : l.Perm m) : srt lt l = srt lt m := sorted_eq o ((srt_perm l).trans (p.trans (srt_perm m).symm)) (srt_pw o l) (srt_pw o m)
theorem mem_insU (o : Tot lt) (x z : α) : ∀ l : List α, z ∈ insU lt x l ↔ z = x ∨ z ∈ l
  | [] => by simp [insU]
  | y :: r => by
    unfold insU
    split
    · simp only [List.mem_cons, mem_insU o x z r]
      exact ⟨fun h => h.elim (fun h => .inr (.inl h)) fun h => h.elim .inl fun h => .inr (.inr h), fun h => h.elim (fun h => .inr (.inl h)) fun h => h.elim .inl fun h => .inr (.inr h)⟩
    · rename_i h1
      split
      · simp only [List.mem_cons]
      · rename_i h2
        have : x = y := by
          by_cases e : ∃ _ : x = y, True
          · exact e.1
          · rcases o.tri x y (fun z => e ⟨z, trivial⟩) with k | k
            · exact absurd k h2
            · exact absurd k h1
        subst this
        simp only [List.mem_cons]
        exact ⟨.inr, fun h => h.elim .inl id⟩
theorem mem_usrt (o : Tot lt) (z : α) : ∀ l : List α, z ∈ usrt lt l ↔ z ∈ l
  | [] => Iff.rfl
  | x :: r => by rw [usrt, mem_insU o, mem_usrt o z r, List.mem_cons]
theorem insU_pw (o : Tot lt) (x : α) : ∀ l : List α, l.Pairwise (fun a b => lt a b = true) → (insU lt x l).Pairwise fun a b => lt a b = true
  | [], _ => List.pairwise_singleton _ _
  | y :: r, h => by
    have h0 := h
    rw [List.pairwise_cons] at h
    unfold insU
    split
    · rename_i hy
      refine List.pairwise_cons.mpr ⟨fun z hz => ?_, insU_pw o x r h.2⟩
      rcases (mem_insU o x z r).mp hz with rfl | hz
      · exact hy
      · exact h.1 z hz
    · split
      · rename_i hy
        refine List.pairwise_cons.mpr ⟨fun z hz => ?_, h0⟩
        rcases List.mem_cons.mp hz with rfl | hz
        · exact hy
        · exact o.tr _ _ _ hy (h.1 z hz)
      · exact h0
theorem usrt_pw (o : Tot lt) : ∀ l : List α, (usrt lt l).Pairwise fun a b => lt a b = true
  | [] => List.Pairwise.nil
  | x :: r => insU_pw o x _ (usrt_pw o r)
theorem strict_eq (o : Tot lt) : ∀ {l m : List α}, (∀ x, x ∈ l ↔ x ∈ m) → l.Pairwise (fun a b => lt a b = true) → m.Pairwise (fun a b => lt a b = true) → l = m
  | [], [], _, _, _ => rfl
  | [], y :: m, p, _, _ => by have := (p y).mpr List.mem_cons_self; cases this
  | x :: l, [], p, _, _ => by have := (p x).mp List.mem_cons_self; cases this
  | x :: l, y :: m, p, h1, h2 => by
    rw [List.pairwise_cons] at h1 h2
    have e : x = y := by
      by_cases e : ∃ _ : x = y, True
      · exact e.1
      · have e : x ≠ y := fun z => e ⟨z, trivial⟩
        have a1 : x ∈ m := by
          rcases List.mem_cons.mp ((p x).mp List.mem_cons_self) with z | z
          · exact absurd z e
          · exact z
        have a2 : y ∈ l := by
          rcases List.mem_cons.mp ((p y).mpr List.mem_cons_self) with z | z
          · exact absurd z.symm e
          · exact z
        have b := o.asym (h2.1 x a1)
        rw [h1.1 y a2] at b; cases b
    subst e
    refine congrArg (x :: ·) (strict_eq o (fun z => ⟨fun hz => ?_, fun hz => ?_⟩) h1.2 h2.2)
    · rcases List.mem_cons.mp ((p z).mp (List.mem_cons_of_mem _ hz)) with rfl | k
      · have := h1.1 z hz; rw [o.irr] at this; cases this
      · exact k
    · rcases List.mem_cons.mp ((p z).mpr (List.mem_cons_of_mem _ hz)) with rfl | k
      · have := h2.1 z hz; rw [o.irr] at this; cases this
      · exact k
theorem usrt_eq (o : Tot lt) {l m : List α} (p : ∀ x, x ∈ m ↔ x ∈ l) (h : m.Pairwise fun a b => lt a b = true) : m = usrt lt l := strict_eq o (fun x => (p x).trans (mem_usrt o x l).symm) h (usrt_pw o l)
end
def ltI (a b : Int) : Bool := decide (a < b)
theorem totI : Tot ltI := ⟨fun a => by simp [ltI], fun a b c h1 h2 => by simp [ltI] at *; omega, fun a b h => by simp [ltI]; omega⟩
def lexL : List Int → List Int → Bool
  | [], [] => false
  | [], _ :: _ => true
  | _ :: _, [] => false
  | a :: r, b :: q => decide (a < b) || (decide (a = b) && lexL r q)
theorem totL : Tot lexL where
  irr := fun a => by induction a with
    | nil => rfl
    | cons x r ih => simp [lexL, ih]
  tr := fun a b c h1 h2 => by
    induction a generalizing b c with
    | nil => cases b with
      | nil => cases h1
      | cons y q => cases c with
        | nil => cases h2
        | cons z s => rfl
    | cons x r ih => cases b with
      | nil => cases h1
      | cons y q => cases c with
        | nil => cases h2
        | cons z s =>
          simp only [lexL, Bool.or_eq_true, decide_eq_true_eq, Bool.and_eq_true] at h1 h2 ⊢
          rcases h1 with h1 | ⟨h1, h1'⟩ <;> rcases h2 with h2 | ⟨h2, h2'⟩
          · left; omega
          · left; omega
          · left; omega
          · right; exact ⟨by omega, ih q s h1' h2'⟩
  tri := fun a b h => by
    induction a generalizing b with
    | nil => cases b with
      | nil => exact absurd rfl h
      | cons y q => exact .inl rfl
    | cons x r ih => cases b with
      | nil => exact .inr rfl
      | cons y q =>
        simp only [lexL, Bool.or_eq_true, decide_eq_true_eq, Bool.and_eq_true]
        rcases Int.lt_trichotomy x y with k | k | k
        · exact .inl (.inl k)
        · subst k
          have : r ≠ q := fun e => h (by rw [e])
          rcases ih q this with k | k
          · exact .inl (.inr ⟨rfl, k⟩)
          · exact .inr (.inr ⟨rfl, k⟩)
        · exact .inr (.inl k)
open L2 in
theorem lex_code {B : Int} : ∀ {a b : List Int}, a.length = b.length → TS.Bd B a → TS.Bd B b → lexL a b = true → TS.code B a < TS.code B b
  | [], [], _, _, _, h => by cases h
  | x :: r, y :: q, hl, ha, hb, h => by
    have h2 : r.length = q.length := by simpa using hl
    simp only [lexL, Bool.or_eq_true, decide_eq_true_eq, Bool.and_eq_true] at h
    rcases h with h | ⟨rfl, h⟩
    · exact TS.code_lt h2 ha.tail hb.tail h
    · exact (TS.code_same h2).mpr (lex_code (a := r) (b := q) h2 ha.tail hb.tail h)
  | [], _ :: _, hl, _, _, _ => by simp at hl
  | _ :: _, [], hl, _, _, _ => by simp at hl
end OrdX
end

section
set_option maxRecDepth 100000
set_option maxHeartbeats 4000000
namespace RL
open PySem PySem.Spec L2 OrdX
open PyProof.Rows hiding St
/-! ### set(xs) of a list of ints -/
def rSetL (K : PySem.W.Frag) (w : World) : List V → Hp → VK → Prop := fun xs H Q => ∃ (l : Addr) (ns : List Int), xs = [V.ref l] ∧ SqL K H l (ns.map V.int) ∧ ns.length < 64 ∧ ∀ p c, H p = none → c ≤ ns.length → Q (.ref p) (upd H p (SetO w p (fun j => decide (j ∈ ns)) c))
theorem ints_at : ∀ {us : List Value} {ns : List Int}, IntsAre us ns → ∀ (i : Nat) (v : Value), us[i]? = some v → ∃ k t, ns[i]? = some k ∧ v = .int k t
  | _, _, .cons n t _, 0, v, h => by cases Option.some.inj h; exact ⟨n, t, rfl, rfl⟩
  | _, _, .cons _ _ r, i + 1, v, h => ints_at r i v h
theorem cr_setL {X : Cx} (hc : X.calm = true) : CallR X (.type "set") (rSetL X.K X.w) := by
  intro pins s σ H vs us Q I rv ⟨l, ns, e, hl, hf, q⟩
  subst e
  rw [Vals.ref1 rv]
  obtain ⟨its, ri, pl, _⟩ := I.list hl
  have noh := I.ok.hd hc
  have isl : s.heap.IsList l its.toArray := pl.isList
  have hi : IntsAre its.toArray.toList ns := ints_of_vals ri
  have hsz : its.toArray.size = ns.length := by
    have z := IntsAre.length hi
    simpa using z
  have lt : l < s.heap.objs.size := by
    obtain ⟨o, ho, _⟩ := isl
    exact Heap.lt_size ho
  have ne1 : l ≠ (s.heap.push (RS.emp X.w)).objs.size := by rw [Heap.size_push]; exact Nat.ne_of_lt (Nat.lt_succ_of_lt lt)
  have ne2 : s.heap.objs.size ∉ [(s.heap.push (RS.emp X.w)).objs.size, l] := by
    rw [Heap.size_push]
    simp only [List.mem_cons, List.not_mem_nil, or_false, not_or]
    exact ⟨Nat.ne_of_lt (Nat.lt_succ_self _), Nat.ne_of_gt lt⟩
  refine RS.set_list (Z := fun g => ∃ c, c ≤ ns.length ∧ SetR X.w g s.heap.objs.size (fun j => decide (j ∈ ns)) c) noh isl (fun B t R hB _ ht hg hd ho hR => ?_) fun g tk ⟨c, hc1, hS⟩ k => ?_
  · have W := (Walks.list (prog := X.prog) (w := X.w) (A := B.in1) (by simpa using hB) _ l ne1 its.toArray).toS
    have lst2 : t.heap.IsList l its.toArray := by rw [ht]; exact (isl.push _).push _
    have itr : t.heap.IsListIter (s.heap.push (RS.emp X.w)).objs.size l 0 := by rw [ht]; exact ⟨_, Heap.get?_push_size _ rfl, rfl, rfl⟩
    have atS : t.heap.get? s.heap.objs.size = some (RS.emp X.w) := by rw [ht]; exact Heap.get?_push_of_some _ (Heap.get?_push_size _ rfl)
    refine set_update_ints W s.heap.objs.size ne2 ns hsz (by unfold scanBound; omega) (fun i v hv => ints_at hi i v (by rw [Array.getElem?_toList]; exact hv)) (its.toArray.size - 0) 0 t rfl (Nat.zero_le _) ⟨itr, lst2⟩ ⟨0, Nat.le_refl 0, setR_new_at atS⟩ fun t' c hm hc' hS' => hR t' ⟨?_, ?_, ?_, fun b u e => ?_⟩ ⟨c, by rw [← hsz]; exact hc', hS'⟩
    · rw [← hg]; exact hm.gens
    · rw [← hd]; exact hm.drawn
    · rw [← ho]; exact hm.os
    · have b1 : b < s.heap.objs.size := Heap.lt_size e
      refine hm.heap b u ?_ (by rw [ht]; exact Heap.get?_push_of_some _ (Heap.get?_push_of_some _ e))
      rw [Heap.size_push]
      simp only [List.mem_cons, List.not_mem_nil, or_false, not_or]
      exact ⟨Nat.ne_of_lt b1, Nat.ne_of_lt (Nat.lt_succ_of_lt b1)⟩
  · have fresh : H s.heap.objs.size = none := I.hok.fresh (Nat.le_refl _)
    exact ⟨.ref s.heap.objs.size, upd H s.heap.objs.size (SetO X.w s.heap.objs.size (fun j => decide (j ∈ ns)) c), I.laid (t' := tk) k (Nat.le_refl _) (setO_new hS), rfl, q _ c fresh hc1⟩
theorem cr_or {X : Cx} {f : Value} {r1 r2 : List V → Hp → VK → Prop} (h1 : CallR X f r1) (h2 : CallR X f r2) : CallR X f (fun xs H Q => r1 xs H Q ∨ r2 xs H Q) := fun pins s σ H xs us Q I r h => h.elim (h1 pins s σ H xs us Q I r) (h2 pins s σ H xs us Q I r)

/-! ### lists of ints, of tuples of ints, of texts -/
def intsW : List W → Option (List Int)
  | [] => some []
  | .int i :: r => (intsW r).map (i :: ·)
  | _ => none
def tupI1 : W → Option (List Int)
  | .tup ws => intsW ws
  | _ => none
def tupsW : List W → Option (List (List Int))
  | [] => some []
  | w :: r => match tupI1 w, tupsW r with
    | some k, some ks => some (k :: ks)
    | _, _ => none
def shapeT (ks : List (List Int)) : Bool := match ks with
  | [] => true
  | k :: r => decide (1 ≤ k.length) && (k :: r).all fun j => decide (j.length = k.length) && j.all fun i => decide (0 ≤ i)
section
variable {K : PySem.W.Frag} {mg : Str → Option Value} {ρ ρ' : RT} {H H' : Hp}
theorem intsW_of : ∀ {ws : List W} {ns : List Int}, intsW ws = some ns → ws = ns.map W.int
  | [], ns, h => by cases (Option.some.inj h : [] = ns); rfl
  | w :: r, ns, h => by
    cases w with
    | int i =>
      cases e : intsW r with
      | none => simp [intsW, e] at h
      | some ms =>
        simp [intsW, e] at h
        subst h
        rw [intsW_of e] <;> rfl
    | _ => cases h
theorem rws_ints : ∀ {ns : List Int} {vs : List V}, RWs K mg ρ H (ns.map W.int) vs → vs = ns.map V.int
  | [], _, .nil => rfl
  | n :: r, _, .cons (.int _) t => by rw [rws_ints t] <;> rfl
theorem ints_rws : ∀ ns : List Int, RWs K mg ρ H (ns.map W.int) (ns.map V.int)
  | [] => .nil
  | n :: r => .cons (.int n) (ints_rws r)
theorem strs_rws : ∀ ns : List Str, RWs K mg ρ H (ns.map W.str) (ns.map V.str)
  | [] => .nil
  | n :: r => .cons (.str n) (strs_rws r)
theorem tupsW_of : ∀ {ws : List W} {ks : List (List Int)} {vs : List V}, tupsW ws = some ks → RWs K mg ρ H ws vs → ∃ ps : List (Addr × List Int), vs = ps.map (fun p => V.ref p.1) ∧ ps.map (·.2) = ks ∧ ∀ p, p ∈ ps → SqT K H p.1 (p.2.map V.int) ∧ RW K mg ρ H (.tup (p.2.map W.int)) (.ref p.1)
  | [], ks, _, h, .nil => by cases (Option.some.inj h : [] = ks); exact ⟨[], rfl, rfl, nofun⟩
  | w :: r, ks, _, h, .cons rw1 t => by
    unfold tupsW at h
    cases e1 : tupI1 w with
    | none => rw [e1] at h; cases h
    | some k =>
      cases e2 : tupsW r with
      | none => rw [e1, e2] at h; cases h
      | some ks' =>
        rw [e1, e2] at h
        cases Option.some.inj h
        obtain ⟨ps, rfl, h2, h3⟩ := tupsW_of e2 t
        cases w with
        | tup us =>
          have eu := intsW_of (show intsW us = some k from e1)
          subst eu
          cases rw1 with
          | @tup a vs _ hf hr =>
            have ev := rws_ints hr
            subst ev
            refine ⟨(a, k) :: ps, rfl, by rw [← h2]; rfl, fun p m => ?_⟩
            rcases List.mem_cons.mp m with rfl | m
            · exact ⟨sqT_of hf, .tup hf hr⟩
            · exact h3 p m
        | _ => cases e1
theorem bnd_of (ks : List (List Int)) (h : ∀ k, k ∈ ks → ∀ i, i ∈ k → 0 ≤ i) : ∃ B : Int, ∀ k, k ∈ ks → TS.Bd B k := by
  have one : ∀ k : List Int, (∀ i, i ∈ k → 0 ≤ i) → ∃ B : Int, ∀ C, B ≤ C → TS.Bd C k := by
    intro k
    induction k with
    | nil => exact fun _ => ⟨0, fun C _ m hm => nomatch hm⟩
    | cons i r ih =>
      intro h
      obtain ⟨B, hB⟩ := ih fun j hj => h j (List.mem_cons_of_mem _ hj)
      refine ⟨max B (i + 1), fun C hC m hm => ?_⟩
      rcases List.mem_cons.mp hm with rfl | hm
      · exact ⟨h _ List.mem_cons_self, by omega⟩
      · exact hB C (by omega) m hm
  have all : ∃ B : Int, ∀ C, B ≤ C → ∀ k, k ∈ ks → TS.Bd C k := by
    induction ks with
    | nil => exact ⟨0, fun C _ m hm => nomatch hm⟩
    | cons k r ih =>
      obtain ⟨B, hB⟩ := ih fun j hj => h j (List.mem_cons_of_mem _ hj)
      obtain ⟨B', hB'⟩ := one k (h k List.mem_cons_self)
      refine ⟨max B B', fun C hC m hm => ?_⟩
      rcases List.mem_cons.mp hm with rfl | hm
      · exact hB' C (by omega)
      · exact hB C (by omega) m hm
  obtain ⟨B, hB⟩ := all
  exact ⟨B, fun k hk => hB B (Int.le_refl _) k hk⟩
theorem shape_of {ks : List (List Int)} (h : shapeT ks = true) : ∃ (d : Nat) (B : Int), 1 ≤ d ∧ ∀ k, k ∈ ks → k.length = d ∧ TS.Bd B k := by
  cases ks with
  | nil => exact ⟨1, 0, Nat.le_refl _, nofun⟩
  | cons k r =>
    simp only [shapeT, Bool.and_eq_true, decide_eq_true_eq, List.all_eq_true] at h
    obtain ⟨B, hB⟩ := bnd_of (k :: r) fun j hj i hi => (h.2 j hj).2 i hi
    exact ⟨k.length, B, h.1, fun j hj => ⟨(h.2 j hj).1, hB j hj⟩⟩
theorem pw_codes {d : Nat} {B : Int} {ks : List (List Int)} (hk : ∀ k, k ∈ ks → k.length = d ∧ TS.Bd B k) (h : ks.Pairwise fun a b => TS.code B a ≤ TS.code B b) : ks.Pairwise fun a b => lexL b a = false := by
  refine List.Pairwise.imp_of_mem (fun {a b} ha hb hab => ?_) h
  cases e : lexL b a with
  | false => rfl
  | true => have := lex_code ((hk b hb).1.trans (hk a ha).1.symm) (hk b hb).2 (hk a ha).2 e; omega
theorem pairs_rws : ∀ {ps : List (Addr × List Int)}, (∀ p, p ∈ ps → RW K mg ρ H (.tup (p.2.map W.int)) (.ref p.1)) → RWs K mg ρ H ((ps.map (·.2)).map fun k => .tup (k.map W.int)) (ps.map fun p => V.ref p.1)
  | [], _ => .nil
  | p :: r, h => .cons (h p List.mem_cons_self) (pairs_rws fun q m => h q (List.mem_cons_of_mem _ m))
end
/-- sorted(set(xs)) -/
def gSrtSet (w : W) (S : Store) : Res W := match seqL S w with
  | some ws => if ws.length < 64 then (match intsW ws with
    | some ns => .ok (.lst ((usrt ltI ns).map W.int)) S
    | none => match tupsW ws with
      | some ks => if shapeT ks = true then .ok (.lst ((usrt lexL ks).map fun k => .tup (k.map W.int))) S else .bad
      | none => .bad) else .bad
  | none => .bad
section
variable {X : Cx} {E : XK} {a : Expr} {ma : SM W} {p1 p2 q pos : Pos}
theorem pm_srtset (hc : X.calm = true) (hu : X.A.units + 64 < cLine) (hg : Gl X "sorted") (hm : X.mg "sorted" = none) (hg2 : Gl X "set") (hm2 : X.mg "set" = none) (ha : PM X E a ma) (hs : starEach [a] X.env = [(false, eval a X.env)] := by rfl)
    (hs2 : starEach [Expr.Call (.Name "set" p2) [a] [] q] X.env = [(false, eval (Expr.Call (.Name "set" p2) [a] [] q) X.env)] := by rfl) : PM X E (.Call (.Name "sorted" p1) [.Call (.Name "set" p2) [a] [] q] [] pos) (mUn gSrtSet ma) := by
  have h1 := pe_callTy (p := p2) (pos := q) (cr_or (cr_setL (X := X) hc) (cr_setOfT hc hu)) hg2 hm2 (by decide +kernel) (pa_cons ha pa_nil hs) (by decide +kernel) (by decide +kernel) hs rfl
  have h2 := pe_callB (p := p1) (pos := pos) (cr_or (cr_sortedSet (X := X) hc) (cr_sortedT hc)) hg hm (by decide +kernel) (pa_cons h1 pa_nil hs2) (by decide +kernel) (by decide +kernel) hs2 rfl
  refine pe_imp h2 fun σ H Q h => ?_
  show tE X E ma σ H fun x H1 => _
  refine tX.bind (m := ma) (k := fun w s S => gSrtSet w S) h fun ρ H1 w x s S1 rep env r o => ?_
  unfold gSrtSet at o
  cases e1 : seqL S1 w with
  | none => rw [e1] at o; exact o.elim
  | some ws =>
    obtain ⟨l, vs, rfl, hl, hr⟩ := seqL_of rep r e1
    simp only [e1] at o
    split at o
    · rename_i h64
      cases e2 : intsW ws with
      | some ns =>
        simp only [e2] at o
        have ew := intsW_of e2
        subst ew
        have ev := rws_ints hr
        subst ev
        rw [List.length_map] at h64
        refine .inl ⟨l, ns, rfl, hl, h64, fun p c hp hc1 => .inl ⟨p, _, c, rfl, upd_same, by omega, fun ms p3 hs1 hm1 hl1 hp3 => ?_⟩⟩
        obtain ⟨e3, rep3⟩ := rep.tree hp (SetO X.w p (fun j => decide (j ∈ ns)) c)
        obtain ⟨e4, rep4⟩ := rep3.tree hp3 (.lst (ms.map V.int))
        have eq : ms = usrt ltI ns := usrt_eq totI (fun z => by rw [hm1 z]; simp) (hs1.imp fun hab => by simpa [ltI] using hab)
        subst eq
        exact o ρ _ _ (e3.trans e4) rep4 (.lst (fx_new rep3 hp3 _) (ints_rws _))
      | none =>
        simp only [e2] at o
        cases e5 : tupsW ws with
        | none => rw [e5] at o; exact o.elim
        | some ks =>
          simp only [e5] at o
          split at o
          · rename_i hsh
            obtain ⟨d, B, hd, hB⟩ := shape_of hsh
            obtain ⟨ps, rfl, rfl, hps⟩ := tupsW_of e5 hr
            have hlen : ps.length < 64 := by rw [hr.length, List.length_map] at h64; exact h64
            refine .inr ⟨l, ps, rfl, hl, fun p m => (hps p m).1, hlen, fun p L hp hL1 hL2 => .inr ⟨p, L, d, B, rfl, upd_same, fun z m => ?_, hd, fun z m => hB _ (List.mem_map.mpr ⟨z, hL1 z m, rfl⟩), fun L' p3 pm nd h64' pw hp3 => ?_⟩⟩
            · obtain ⟨e3, rep3⟩ := rep.tree hp (SetTO X.prog X.w p L)
              have rr := (hps z (hL1 z m)).2.ext e3
              cases rr with
              | tup hf hr2 =>
                have := rws_ints hr2
                subst this
                exact sqT_of hf
            · obtain ⟨e3, rep3⟩ := rep.tree hp (SetTO X.prog X.w p L)
              obtain ⟨e4, rep4⟩ := rep3.tree hp3 (.lst (L'.map fun q => V.ref q.1))
              have inps : ∀ z, z ∈ L' → z ∈ ps := fun z m => hL1 z (pm.mem_iff.mp m)
              have codes : (L'.map (·.2)).Pairwise fun a b => lexL b a = false := pw_codes (d := d) (B := B) (fun k hk => by
                obtain ⟨z, m, rfl⟩ := List.mem_map.mp hk
                exact hB _ (List.mem_map.mpr ⟨z, inps z m, rfl⟩)) (List.pairwise_map.mpr pw)
              have strict : (L'.map (·.2)).Pairwise fun a b => lexL a b = true := by
                refine (codes.and nd).imp fun {a b} hab => ?_
                rcases totL.tri a b hab.2 with z | z
                · exact z
                · rw [hab.1] at z; cases z
              have eq : L'.map (·.2) = usrt lexL (ps.map (·.2)) := usrt_eq totL (fun k => ⟨fun m => ?_, fun m => ?_⟩) strict
              · have hall : ∀ z, z ∈ L' → RW X.K X.mg ρ (upd (upd H1 p (SetTO X.prog X.w p L)) p3 (.lst (L'.map fun q => V.ref q.1))) (.tup (z.2.map W.int)) (.ref z.1) := fun z m => ((hps z (inps z m)).2.ext e3).ext e4
                have rr := pairs_rws hall
                rw [eq] at rr
                exact o ρ _ _ (e3.trans e4) rep4 (.lst (fx_new rep3 hp3 _) rr)
              · obtain ⟨z, hz, rfl⟩ := List.mem_map.mp m
                exact List.mem_map.mpr ⟨z, inps z hz, rfl⟩
              · obtain ⟨z, hz, rfl⟩ := List.mem_map.mp m
                obtain ⟨y, hy, e⟩ := List.mem_map.mp (hL2 z hz)
                exact List.mem_map.mpr ⟨y, pm.mem_iff.mpr hy, e⟩
          · exact o.elim
    · exact o.elim
end

/-- sorted(xs) -/
def gSorted (w : W) (S : Store) : Res W := match seqL S w with
  | some ws => (match intsW ws with
    | some ns => .ok (.lst ((srt ltI ns).map W.int)) S
    | none => match tupsW ws with
      | some ks => if ks.length < 64 ∧ shapeT ks = true then .ok (.lst ((srt lexL ks).map fun k => .tup (k.map W.int))) S else .bad
      | none => .bad)
  | none => .bad
theorem perm_pairs {xs : List V} {ps : List (Addr × List Int)} (p : xs.Perm (ps.map fun q => V.ref q.1)) : ∃ qs : List (Addr × List Int), xs = qs.map (fun q => V.ref q.1) ∧ qs.Perm ps := by
  generalize hz : ps.map (fun q => V.ref q.1) = zs at p
  induction p generalizing ps with
  | nil => exact ⟨ps, by rw [hz], List.Perm.refl _⟩
  | cons x p ih =>
    cases ps with
    | nil => simp at hz
    | cons q r =>
      rw [List.map_cons, List.cons.injEq] at hz
      obtain ⟨qs, e, pp⟩ := ih hz.2
      exact ⟨q :: qs, by rw [List.map_cons, hz.1, e], pp.cons q⟩
  | swap x y l =>
    match ps, hz with
    | a :: b :: r, hz =>
      simp only [List.map_cons, List.cons.injEq] at hz
      exact ⟨b :: a :: r, by simp only [List.map_cons]; rw [hz.1, hz.2.1, hz.2.2], List.Perm.swap a b r⟩
  | trans p1 p2 ih1 ih2 =>
    obtain ⟨qs, e, pp⟩ := ih2 hz
    obtain ⟨qs', e', pp'⟩ := ih1 e.symm
    exact ⟨qs', e', pp'.trans pp⟩
section
variable {X : Cx} {E : XK}
theorem cm_sorted : CallM X E (.builtin "sorted") (g1 gSorted) := cm1 fun pins s σ H x us Q ρ S w I r rep rw' o => by
  unfold gSorted at o
  cases e1 : seqL S w with
  | none => rw [e1] at o; exact o.elim
  | some ws =>
    obtain ⟨l, vs, rfl, hl, hr⟩ := seqL_of rep rw' e1
    simp only [e1] at o
    cases e2 : intsW ws with
    | some ns =>
      simp only [e2] at o
      have ew := intsW_of e2
      subst ew
      have ev := rws_ints hr
      subst ev
      refine cr_sortedI pins s σ H _ us Q I r ⟨l, ns, rfl, hl, fun ms p pm pw hp => ?_⟩
      obtain ⟨e3, rep3⟩ := rep.tree hp (.lst (ms.map V.int))
      have eq : ms = srt ltI ns := srt_eq totI pm (pw.imp fun hab => by simp [ltI]; omega)
      subst eq
      exact o ρ _ _ e3 rep3 (.lst (fx_new rep hp _) (ints_rws _))
    | none =>
      simp only [e2] at o
      cases e5 : tupsW ws with
      | none => rw [e5] at o; exact o.elim
      | some ks =>
        simp only [e5] at o
        split at o
        · rename_i hsh
          obtain ⟨d, B, hd, hB⟩ := shape_of hsh.2
          obtain ⟨ps, rfl, rfl, hps⟩ := tupsW_of e5 hr
          have h64 : ps.length < 64 := by simpa using hsh.1
          refine cr_sortT (d := d) (B := B) hd pins s σ H _ us Q I r ⟨l, _, rfl, hl, by simpa using h64, fun x hx => ?_, fun ys p pm pw hp => ?_⟩
          · obtain ⟨z, m, rfl⟩ := List.mem_map.mp hx
            exact ⟨z.2, ⟨z.1, rfl, (hps z m).1⟩, hB _ (List.mem_map.mpr ⟨z, m, rfl⟩)⟩
          · obtain ⟨qs, rfl, pq⟩ := perm_pairs pm
            have inps : ∀ z, z ∈ qs → z ∈ ps := fun z m => pq.mem_iff.mp m
            obtain ⟨e3, rep3⟩ := rep.tree hp (.lst (qs.map fun q => V.ref q.1))
            have codes : (qs.map (·.2)).Pairwise fun a b => lexL b a = false := by
              refine pw_codes (d := d) (B := B) (fun k hk => ?_) (List.pairwise_map.mpr ?_)
              · obtain ⟨z, m, rfl⟩ := List.mem_map.mp hk
                exact hB _ (List.mem_map.mpr ⟨z, inps z m, rfl⟩)
              · refine (List.pairwise_map.mp pw).imp_of_mem fun {a b} ha hb hab => ?_
                exact hab _ _ ⟨a.1, rfl, (hps a (inps a ha)).1⟩ ⟨b.1, rfl, (hps b (inps b hb)).1⟩
            have eq : qs.map (·.2) = srt lexL (ps.map (·.2)) := srt_eq totL (pq.map _) codes
            have hall : ∀ z, z ∈ qs → RW X.K X.mg ρ (upd H p (.lst (qs.map fun q => V.ref q.1))) (.tup (z.2.map W.int)) (.ref z.1) := fun z m => (hps z (inps z m)).2.ext e3
            have rr := pairs_rws hall
            rw [eq] at rr
            exact o ρ _ _ e3 rep3 (.lst (fx_new rep hp _) rr)
        · exact o.elim
end
/-! ### list.append, list.insert -/
def gAppend (o : W) (ws : List W) (S : Store) : Res W := match o, ws with
  | .ref l, [w] => match lstAt S l with
    | some us => if us.length < lim then .ok .non (S.set l (.lst (us ++ [w]))) else .bad
    | none => .bad
  | _, _ => .bad
def gInsert (o : W) (ws : List W) (S : Store) : Res W := match o, ws with
  | .ref l, [.int i, w] => match lstAt S l with
    | some us => if us.length < lim ∧ 0 ≤ i ∧ i < 2 ^ 63 then .ok .non (S.set l (.lst (us.take i.toNat ++ [w] ++ us.drop i.toNat))) else .bad
    | none => .bad
  | _, _ => .bad
/-- it stands as a list before the arguments are read -/
def gMetL (g : W → List W → Store → Res W) (mo : SM W) (mr : SM (List W)) : SM W := fun s S => (mo s S).bind fun o S1 => match o with
  | .ref l => match lstAt S1 l with
    | some _ => (mr s S1).bind fun ws S2 => g o ws S2
    | none => .bad
  | _ => .bad

section
variable {X : Cx} {E : XK} {o e : Expr} {es : List Expr} {mo : SM W} {mr : SM (List W)} {apos cpos : Pos} {name : Str} {id : String}
def okMet (X : Cx) (E : XK) (g : W → List W → Store → Res W) (r : V → List V → Hp → VK → Prop) : Prop := ∀ ρ H S w x ws vs Q, RepS X.K X.mg ρ H S → RW X.K X.mg ρ H w x → RWs X.K X.mg ρ H ws vs → Out X.K X.mg (RW X.K X.mg) E ρ H (g w ws S) Q → r x vs H Q
theorem pm_metL {g : W → List W → Store → Res W} {r : V → List V → Hp → VK → Prop} (slot : Slot "list" name id) (hty : typeOf (.builtin id) = pure (.type "method_descriptor")) (hm : MtR X id r) (hr : okMet X E g r) (ho : PM X E o mo) (ha : PAM X E (e :: es) mr)
    (hbase : attributeBase o name X.env (eval o X.env) = eval o X.env := by rfl)
    (hfew : ((backTo cpos (starEach (e :: es) X.env)).all (fun x => !x.1) && (backToKw cpos (keywordEach [] X.env)).all (fun x => x.1.isSome)
      && decide ((e :: es).length + ([] : List Keyword).length + (if ([] : List Keyword).isEmpty then 0 else 1) < 30)) = true := by rfl)
    (hline : (apos.endLine == cpos.line) = true := by rfl) (hs : starEach (e :: es) X.env = (false, eval e X.env) :: starEach es X.env := by rfl) (hplain : (backTo cpos (starEach es X.env)).any (·.1) = false := by rfl) :
    PM X E (.Call (.Attribute o name apos) (e :: es) [] cpos) (gMetL g mo mr) := by
  refine pe_imp (pe_bm PySem.F.plainAttrs_list slot hty hm ho ha hbase hfew hline hs hplain) fun σ H Q h => tX.bind h fun ρ1 H1 w x s S1 rep env rx out => ?_
  cases w with
  | ref l =>
    cases rx with
    | @ref l p hl =>
      dsimp only at out
      cases e1 : lstAt S1 l with
      | none => rw [e1] at out; exact out.elim
      | some us =>
        rw [e1] at out
        obtain ⟨vs, h1, h2⟩ := lstAt_of rep hl e1
        refine ⟨.inl ⟨rfl, vs, .inl (.inl h1)⟩, ρ1, s, S1, rep, env, Out.bind out fun ρ2 H2 ws xs S2 e2 rep2 r2 o2 => hr ρ2 H2 S2 (.ref l) _ ws xs Q rep2 (.ref (e2.pre _ _ hl)) r2 o2⟩
  | _ => exact out.elim
theorem out_wr {K : PySem.W.Frag} {mg : Str → Option Value} {ρ : RT} {H : Hp} {S : Store} {Q : VK} {l : Nat} {p : Addr} {ws : List W} {vs : List V} (rep : RepS K mg ρ H S) (hl : ρ.r[l]? = some p) (out : Out K mg (RW K mg) E ρ H (.ok .non (S.set l (.lst ws))) Q)
    (hr : ∀ ρ' H', Ext ρ H ρ' H' → RWs K mg ρ' H' ws vs) : Q .non (upd H p (.lst vs)) := by
  have ma : p ∈ ρ.r := List.mem_of_getElem? hl
  have ex : Ext ρ H ρ (upd H p (.lst vs)) := ⟨fun _ _ h => h, fun _ h => h, fun _ h => .inl h, fun b u hb n => by rw [upd_ne fun z : b = p => n (by rw [z]; exact ma)]; exact hb, fun _ h => .inl h, fun b _ hb => by
    by_cases hz : b = p
    · subst hz; rw [upd_same]; simp
    · rw [upd_ne hz]; exact hb⟩
  obtain ⟨e3, rep3⟩ := rep.wr hl (o := .lst vs) (u := .lst ws) (.lst upd_same (hr _ _ ex))
  exact out ρ _ _ e3 rep3 .non
theorem ok_append : okMet X E gAppend rAppend := fun ρ H S w x ws vs Q rep rx rs out => by
  cases w with
  | ref l =>
    cases rx with
    | @ref l p hl =>
      match ws, rs, out with
      | [], _, out => exact out.elim
      | _ :: _ :: _, _, out => exact out.elim
      | [u], rs, out =>
        obtain ⟨y, rfl, ru⟩ := rs.one
        dsimp only [gAppend] at out
        cases e1 : lstAt S l with
        | none => rw [e1] at out; exact out.elim
        | some us =>
          simp only [e1] at out
          obtain ⟨xs, h1, h2⟩ := lstAt_of rep hl e1
          split at out
          · rename_i hz
            refine ⟨p, xs, y, rfl, rfl, h1, by rw [← h2.length]; exact Nat.lt_of_lt_of_le hz (Nat.le_of_eq sizeLine_eq.symm), ?_⟩
            exact out_wr rep hl out fun ρ' H' e => (h2.ext e).append (.cons (ru.ext e) .nil)
          · exact out.elim
  | _ => exact out.elim
theorem ok_insert : okMet X E gInsert (fun x vs H Q => ∃ (l : Addr) (xs : List V) (i : Int) (y : V), x = .ref l ∧ vs = [.int i, y] ∧ H l = some (.lst xs) ∧ xs.length < sizeLine ∧ 0 ≤ i ∧ i < 2 ^ 63 ∧
    Q .non (upd H l (.lst (xs.take i.toNat ++ [y] ++ xs.drop i.toNat)))) := fun ρ H S w x ws vs Q rep rx rs out => by
  cases w with
  | ref l =>
    cases rx with
    | @ref l p hl =>
      match ws, rs, out with
      | [], _, out => exact out.elim
      | [w], _, out => cases w <;> exact out.elim
      | w :: _ :: _ :: _, _, out => cases w <;> exact out.elim
      | [v, u], rs, out =>
        cases v with
        | int i =>
          obtain ⟨y0, y, rfl, r0, ru⟩ := rs.two
          cases r0
          dsimp only [gInsert] at out
          cases e1 : lstAt S l with
          | none => rw [e1] at out; exact out.elim
          | some us =>
            simp only [e1] at out
            obtain ⟨xs, h1, h2⟩ := lstAt_of rep hl e1
            split at out
            · rename_i hz
              refine ⟨p, xs, i, y, rfl, rfl, h1, by rw [← h2.length]; exact Nat.lt_of_lt_of_le hz.1 (Nat.le_of_eq sizeLine_eq.symm), hz.2.1, hz.2.2, ?_⟩
              exact out_wr rep hl out fun ρ' H' e => (((h2.ext e).take _).append (.cons (ru.ext e) .nil)).append ((h2.ext e).drop _)
            · exact out.elim
        | _ => exact out.elim
  | _ => exact out.elim
end
end RL
end

section
set_option maxRecDepth 100000
set_option maxHeartbeats 2000000
namespace RL
open PySem PySem.Spec L2 OrdX
open PyProof.Rows hiding St
/-! ### loops, by invariants -/
/-- what an iterator walks over -/
def itemsOf (S : Store) : ItW → Option (List W)
  | .fix ws => some ws
  | .dyn l => lstAt S l
/-- a list or tuple of these -/
def Seq (S : Store) (w : W) (ws : List W) : Prop := w = .lst ws ∨ w = .flst ws ∨ w = .tup ws ∨ ∃ l, w = .ref l ∧ lstAt S l = some ws
section
variable {g : GM} {m : SS} {s : Env'} {S : Store} {ws : List W} {w : W} {it : ItW}
theorem items_seq (h : Seq S w ws) {s : Env'} {ma : SM W} (e : ma s S = .ok w S) : ∃ it, mItems ma s S = .ok it S ∧ itemsOf S it = some ws := by
  rw [mItems_eq, e, ok_bind]
  rcases h with rfl | rfl | rfl | ⟨l, rfl, hl⟩
  · exact ⟨_, rfl, rfl⟩
  · exact ⟨_, rfl, rfl⟩
  · exact ⟨_, rfl, rfl⟩
  · exact ⟨.dyn l, by simp [hl], hl⟩
theorem len_seq (h : Seq S w ws) : gLen w S = .ok (.int ws.length) S := by
  rcases h with rfl | rfl | rfl | ⟨l, rfl, hl⟩
  · rfl
  · rfl
  · rfl
  · simp [gLen, hl]
theorem ix_seq (h : Seq S w ws) {i : Int} {u : W} (e : atI ws i = some u) : gIx w (.int i) S = .ok u S := by
  rcases h with rfl | rfl | rfl | ⟨l, rfl, hl⟩
  · simp [e]
  · simp [e]
  · simp [e]
  · simp [hl, e]
theorem forL_ev (J : List W → Env' → Store → Prop) (step : ∀ w r s S, J (w :: r) s S → Ev (g w s S) fun s1 S1 => Ev (m s1 S1) fun p S2 => p.1 = .nx ∧ J r p.2 S2) :
    ∀ (ws : List W) (s : Env') (S : Store), J ws s S → Ev (mForL g m ws s S) fun p S' => p.1 = .nx ∧ J [] p.2 S'
  | [], s, S, h => ⟨rfl, h⟩
  | w :: r, s, S, h => by
    show Ev ((g w s S).bind fun s1 S1 => (m s1 S1).bind fun p S2 => _) _
    rw [ev_bind]
    refine (step w r s S h).mono fun s1 S1 h1 => ?_
    rw [ev_bind]
    refine h1.mono fun p S2 ⟨h2, h3⟩ => ?_
    obtain ⟨f, s2⟩ := p
    cases h2
    exact forL_ev J step r s2 S2 h3
theorem forN_ev (J : List W → Env' → Store → Prop) {l : Nat} {ws : List W} (hl : ∀ r s S, J r s S → lstAt S l = some ws) (step : ∀ w r s S, J (w :: r) s S → Ev (g w s S) fun s1 S1 => Ev (m s1 S1) fun p S2 => p.1 = .nx ∧ J r p.2 S2) :
    ∀ (n i : Nat) (s : Env') (S : Store), ws.length - i < n → J (ws.drop i) s S → Ev (mForN g m l n i s S) fun p S' => p.1 = .nx ∧ J [] p.2 S'
  | 0, i, s, S, hn, _ => absurd hn (Nat.not_lt_zero _)
  | n + 1, i, s, S, hn, h => by
    have e := hl _ _ _ h
    unfold mForN
    simp only [e]
    cases e2 : ws[i]? with
    | none =>
      have : ws.drop i = [] := List.drop_eq_nil_of_le (by rw [List.getElem?_eq_none_iff] at e2; exact e2)
      rw [this] at h
      exact ⟨rfl, h⟩
    | some w =>
      obtain ⟨hi, rfl⟩ := List.getElem?_eq_some_iff.mp e2
      rw [List.drop_eq_getElem_cons hi] at h
      show Ev ((g ws[i] s S).bind fun s1 S1 => (m s1 S1).bind fun p S2 => _) _
      rw [ev_bind]
      refine (step _ _ s S h).mono fun s1 S1 h1 => ?_
      rw [ev_bind]
      refine h1.mono fun p S2 ⟨h2, h3⟩ => ?_
      obtain ⟨f, s2⟩ := p
      cases h2
      exact forN_ev J hl step n (i + 1) s2 S2 (by omega) h3
theorem forI_ev (J : List W → Env' → Store → Prop) (hit : ∀ r s S, J r s S → itemsOf S it = some ws) (hn : ws.length < turns) (step : ∀ w r s S, J (w :: r) s S → Ev (g w s S) fun s1 S1 => Ev (m s1 S1) fun p S2 => p.1 = .nx ∧ J r p.2 S2)
    (h : J ws s S) : Ev (mForI it g m s S) fun p S' => p.1 = .nx ∧ J [] p.2 S' := by
  cases it with
  | fix us =>
    cases (Option.some.inj (hit _ _ _ h) : us = ws)
    exact forL_ev J step _ s S h
  | dyn l => exact forN_ev J hit step turns 0 s S (by omega) (by rw [List.drop_zero]; exact h)
end
section
variable {g : GM} {t : SM Bool} {e : SM W} {s0 : Env'} {S : Store} {ws : List W} {w : W} {it : ItW}
theorem lcN_ev (I : List W → List W → Store → Prop) {l : Nat} (hl : ∀ r acc S, I r acc S → lstAt S l = some ws) (step : ∀ w r acc S, I (w :: r) acc S → Ev (mLcT g t e s0 w acc S) fun acc' S' => I r acc' S') :
    ∀ (n i : Nat) (acc : List W) (S : Store), ws.length - i < n → I (ws.drop i) acc S → Ev (mLcN g t e s0 l n i acc S) fun acc' S' => I [] acc' S'
  | 0, i, acc, S, hn, _ => absurd hn (Nat.not_lt_zero _)
  | n + 1, i, acc, S, hn, h => by
    have e1 := hl _ _ _ h
    unfold mLcN
    simp only [e1]
    cases e2 : ws[i]? with
    | none =>
      have : ws.drop i = [] := List.drop_eq_nil_of_le (by rw [List.getElem?_eq_none_iff] at e2; exact e2)
      rw [this] at h
      exact h
    | some w =>
      obtain ⟨hi, rfl⟩ := List.getElem?_eq_some_iff.mp e2
      rw [List.drop_eq_getElem_cons hi] at h
      show Ev ((mLcT g t e s0 ws[i] acc S).bind fun acc S => _) _
      rw [ev_bind]
      exact (step _ _ acc S h).mono fun acc' S' q => lcN_ev I hl step n (i + 1) acc' S' (by omega) q
theorem lcI_ev (I : List W → List W → Store → Prop) (hit : ∀ r acc S, I r acc S → itemsOf S it = some ws) (hn : ws.length < turns) (step : ∀ w r acc S, I (w :: r) acc S → Ev (mLcT g t e s0 w acc S) fun acc' S' => I r acc' S')
    (h : I ws [] S) : Ev (mLcI it g t e s0 S) fun acc' S' => I [] acc' S' := by
  cases it with
  | fix us =>
    cases (Option.some.inj (hit _ _ _ h) : us = ws)
    exact lcL_ev I step _ _ S h
  | dyn l => exact lcN_ev I hit step turns 0 [] S (by omega) (by rw [List.drop_zero]; exact h)
/-- where nothing is changed: those with p, by f -/
theorem lcI_fp (p : W → Bool) (f : W → W) (hit : itemsOf S it = some ws) (hn : ws.length < turns) (h : ∀ w, w ∈ ws → ∃ s1, g w s0 S = .ok s1 S ∧ t s1 S = .ok (p w) S ∧ (p w = true → e s1 S = .ok (f w) S)) :
    mLcI it g t e s0 S = .ok ((ws.filter p).map f) S := by
  refine Ev.eq ((lcI_ev (ws := ws) (fun r acc T => T = S ∧ (∀ w, w ∈ r → w ∈ ws) ∧ acc.length + r.length ≤ ws.length ∧ acc ++ (r.filter p).map f = (ws.filter p).map f) (fun r acc T q => by rw [q.1]; exact hit) hn ?_ ⟨rfl, fun _ h => h, by simp, rfl⟩).mono ?_)
  · rintro w r acc T ⟨rfl, h1, h2, h3⟩
    obtain ⟨s1, e1, e2, e3⟩ := h w (h1 w List.mem_cons_self)
    rw [List.length_cons] at h2
    have ht : turns = 100000 := rfl
    have hl : lim = 16777216 := rfl
    rw [mLcT_eq, e1, nox_ok, ok_bind, e2, nox_ok, ok_bind]
    cases hp : p w with
    | false =>
      rw [if_neg Bool.false_ne_true]
      rw [List.filter_cons, hp] at h3
      exact ⟨rfl, fun u m => h1 u (List.mem_cons_of_mem _ m), by omega, by simpa using h3⟩
    | true =>
      rw [if_pos rfl, e3 hp, nox_ok, ok_bind, if_pos (by omega)]
      rw [List.filter_cons, hp] at h3
      exact ⟨rfl, fun u m => h1 u (List.mem_cons_of_mem _ m), by rw [List.length_append, List.length_singleton]; omega, by simpa using h3⟩
  · rintro acc T ⟨rfl, _, _, h3⟩
    exact ⟨by simpa using h3, rfl⟩
end
/-! ### in -/
section
variable {S : Store}
theorem gIn_ints {n : Bool} {x : Int} {w : W} {ys : List Int} (h : (tupL w).or (seqL S w) = some (ys.map W.int)) : gIn n (.int x) w S = .ok (.bl (xorB n (decide (x ∈ ys)))) S := by
  have h1 : (ys.map W.int).all flatW = true := by rw [List.all_map, List.all_eq_true]; intro _ _; rfl
  have h2 : inW (.int x) (ys.map W.int) = decide (x ∈ ys) := by
    unfold inW
    rw [List.any_map, Bool.eq_iff_iff, List.any_eq_true, decide_eq_true_eq]
    exact ⟨fun ⟨y, hy, e⟩ => by rw [← eq_of_beq (show (y == x) = true from e)]; exact hy, fun hx => ⟨x, hx, beq_self_eq_true x⟩⟩
  cases w with
  | str y => simp [tupL, seqL] at h
  | _ => simp only [gIn, h, h1, h2, flatW, and_self, if_true]
end
end RL
end

section
set_option maxRecDepth 100000
set_option maxHeartbeats 2000000
/-! ties that hang together: two ways to find it out agree -/
namespace MT
abbrev T3 := Int × Int × Int
def step1 (f : List Int) (t : T3) : List Int := if t.2.1 ∈ f ∨ t.2.2 ∈ f then f ++ [t.2.1, t.2.2].filter (fun x => decide (x ∉ f)) else f
def sweep (ts : List T3) (f : List Int) : List Int := ts.foldl step1 f
def iter {β : Type} (F : β → β) : Nat → β → β
  | 0, x => x
  | n + 1, x => iter F n (F x)
theorem filter_lt {α : Type} {p q : α → Bool} : ∀ {U : List α}, (∀ x, x ∈ U → p x = true → q x = true) → (∃ x, x ∈ U ∧ q x = true ∧ p x = false) → (U.filter p).length < (U.filter q).length
  | [], _, ⟨x, h, _⟩ => by cases h
  | y :: U, h, ⟨x, hx, hq, hp⟩ => by
    have hle : (U.filter p).length ≤ (U.filter q).length := by
      have h' := fun x m => h x (List.mem_cons_of_mem _ m)
      clear h hx hq hp
      induction U with
      | nil => exact Nat.le_refl _
      | cons z V ih =>
        have := ih fun x m => h' x (List.mem_cons_of_mem _ m)
        have hz := h' z List.mem_cons_self
        rw [List.filter_cons, List.filter_cons]
        cases e1 : p z <;> cases e2 : q z <;> simp_all <;> omega
    rw [List.filter_cons, List.filter_cons]
    rcases List.mem_cons.mp hx with rfl | m
    · rw [hp, hq]
      simp
      omega
    · have := filter_lt (fun x m => h x (List.mem_cons_of_mem _ m)) ⟨x, m, hq, hp⟩
      have hy := h y List.mem_cons_self
      cases e1 : p y <;> cases e2 : q y <;> simp_all <;> omega
theorem iter_fix {β : Type} {F : β → β} {x : β} (h : F x = x) : ∀ k, iter F k x = x
  | 0 => rfl
  | k + 1 => by show iter F k (F x) = x; rw [h]; exact iter_fix h k
theorem iter_closed {α : Type} [DecidableEq α] (U : List α) (F : List α → List α) (P : List α → Prop) (hU : ∀ l, (∀ x, x ∈ l → x ∈ U) → ∀ x, x ∈ F l → x ∈ U) (hs : ∀ l x, x ∈ l → x ∈ F l) (hP : ∀ l, P l → F l = l) (hN : ∀ l, (∀ x, x ∈ F l → x ∈ l) → P l) :
    ∀ (k : Nat) (l : List α), (∀ x, x ∈ l → x ∈ U) → (U.filter fun x => decide (x ∉ l)).length ≤ k → P (iter F k l)
  | 0, l, hl, hk => by
    refine hN l fun x hx => ?_
    by_cases c : x ∈ l
    · exact c
    · have : x ∈ U.filter fun x => decide (x ∉ l) := List.mem_filter.mpr ⟨hU l hl x hx, by simpa using c⟩
      have := List.length_pos_of_mem this
      omega
  | k + 1, l, hl, hk => by
    show P (iter F k (F l))
    by_cases c : P l
    · rw [hP l c, iter_fix (hP l c)]; exact c
    · have : ∃ x, x ∈ F l ∧ x ∉ l := by
        by_cases d : ∃ x, x ∈ F l ∧ x ∉ l
        · exact d
        · exact absurd (hN l fun x hx => by
            by_cases e : x ∈ l
            · exact e
            · exact absurd ⟨x, hx, e⟩ d) c
      obtain ⟨x, h1, h2⟩ := this
      refine iter_closed U F P hU hs hP hN k (F l) (hU l hl) ?_
      have := filter_lt (U := U) (p := fun x => decide (x ∉ F l)) (q := fun x => decide (x ∉ l)) (fun z _ hz => by
        have hz : z ∉ F l := by simpa using hz
        have : z ∉ l := fun m => hz (hs l z m)
        simpa using this) ⟨x, hU l hl x h1, by simpa using h2, by simpa using h1⟩
      omega
theorem iter_inv {β : Type} {F : β → β} (I : β → Prop) (h : ∀ x, I x → I (F x)) : ∀ k x, I x → I (iter F k x)
  | 0, x, hx => hx
  | k + 1, x, hx => iter_inv I h k (F x) (h x hx)
theorem mem_step1 {f : List Int} {t : T3} {x : Int} : x ∈ step1 f t ↔ x ∈ f ∨ ((t.2.1 ∈ f ∨ t.2.2 ∈ f) ∧ (x = t.2.1 ∨ x = t.2.2)) := by
  unfold step1
  split
  · rename_i h
    rw [List.mem_append, List.mem_filter]
    simp only [List.mem_cons, List.not_mem_nil, or_false, decide_eq_true_eq]
    constructor
    · rintro (h1 | ⟨h1, _⟩)
      · exact .inl h1
      · exact .inr ⟨h, h1⟩
    · rintro (h1 | ⟨_, h1⟩)
      · exact .inl h1
      · by_cases c : x ∈ f
        · exact .inl c
        · exact .inr ⟨h1, c⟩
  · rename_i h
    exact ⟨.inl, fun h1 => h1.elim id fun z => absurd z.1 h⟩
theorem sweep_sub : ∀ (ts : List T3) (f : List Int) (x : Int), x ∈ f → x ∈ sweep ts f
  | [], f, x, h => h
  | t :: r, f, x, h => sweep_sub r (step1 f t) x (mem_step1.mpr (.inl h))
theorem sweep_all : ∀ (ts : List T3) (f : List Int) (t : T3), t ∈ ts → (t.2.1 ∈ f ∨ t.2.2 ∈ f) → t.2.1 ∈ sweep ts f ∧ t.2.2 ∈ sweep ts f
  | u :: r, f, t, h, hf => by
    rcases List.mem_cons.mp h with rfl | h
    · exact ⟨sweep_sub r _ _ (mem_step1.mpr (.inr ⟨hf, .inl rfl⟩)), sweep_sub r _ _ (mem_step1.mpr (.inr ⟨hf, .inr rfl⟩))⟩
    · exact sweep_all r (step1 f u) t h (hf.imp (fun z => mem_step1.mpr (.inl z)) fun z => mem_step1.mpr (.inl z))
theorem sweep_inv (I : Int → Prop) : ∀ (ts : List T3), (∀ t, t ∈ ts → (I t.2.1 ↔ I t.2.2)) → ∀ (f : List Int), (∀ x, x ∈ f → I x) → ∀ x, x ∈ sweep ts f → I x
  | [], _, f, h, x, hx => h x hx
  | t :: r, ht, f, h, x, hx => sweep_inv I r (fun u m => ht u (List.mem_cons_of_mem _ m)) (step1 f t) (fun z hz => by
      have k := ht t List.mem_cons_self
      rcases mem_step1.mp hz with hz | ⟨h1, rfl | rfl⟩
      · exact h z hz
      · exact h1.elim (h _) fun h1 => k.mpr (h _ h1)
      · exact h1.elim (fun h1 => k.mp (h _ h1)) (h _)) x hx
theorem sweep_fix : ∀ (ts : List T3) (f : List Int), (∀ t, t ∈ ts → (t.2.1 ∈ f ∨ t.2.2 ∈ f) → t.2.1 ∈ f ∧ t.2.2 ∈ f) → sweep ts f = f
  | [], f, _ => rfl
  | t :: r, f, h => by
    have e : step1 f t = f := by
      unfold step1
      split
      · rename_i hc
        obtain ⟨h1, h2⟩ := h t List.mem_cons_self hc
        have : [t.2.1, t.2.2].filter (fun x => decide (x ∉ f)) = [] := by
          rw [List.filter_eq_nil_iff]
          intro x hx
          simp only [List.mem_cons, List.not_mem_nil, or_false] at hx
          rcases hx with rfl | rfl
          · simpa using h1
          · simpa using h2
        rw [this, List.append_nil]
      · rfl
    show sweep r (step1 f t) = f
    rw [e]
    exact sweep_fix r f fun u m => h u (List.mem_cons_of_mem _ m)
def labels8 : List Int := [0, 1, 2, 3, 4, 5, 6, 7]
def inL (t : T3) : Prop := t.2.1 ∈ labels8 ∧ t.2.2 ∈ labels8
def reach (ts : List T3) (s : Int) : List Int := iter (sweep ts) 8 [s]
structure Reach (ts : List T3) (s : Int) (f : List Int) : Prop where
  st : s ∈ f
  cl : ∀ t, t ∈ ts → (t.2.1 ∈ f ∨ t.2.2 ∈ f) → t.2.1 ∈ f ∧ t.2.2 ∈ f
  mi : ∀ M : Int → Prop, (∀ t, t ∈ ts → (M t.2.1 ↔ M t.2.2)) → ∀ x, x ∈ f → (M x ↔ M s)
theorem reach_ok {ts : List T3} {s : Int} (h : ∀ t, t ∈ ts → inL t) (hs : s ∈ labels8) : Reach ts s (reach ts s) where
  st := iter_inv (fun f => s ∈ f) (fun f hf => sweep_sub ts f s hf) 8 [s] List.mem_cons_self
  cl := by
    refine iter_closed labels8 (sweep ts) (fun f => ∀ t, t ∈ ts → (t.2.1 ∈ f ∨ t.2.2 ∈ f) → t.2.1 ∈ f ∧ t.2.2 ∈ f) (fun f hf => sweep_inv (· ∈ labels8) ts (fun t m => ⟨fun _ => (h t m).2, fun _ => (h t m).1⟩) f hf) (sweep_sub ts) (sweep_fix ts)
      (fun f hf t m k => ⟨hf _ (sweep_all ts f t m k).1, hf _ (sweep_all ts f t m k).2⟩) 8 [s] (fun x hx => by rw [List.mem_singleton.mp hx]; exact hs) (Nat.le_trans (List.length_filter_le _ _) (by decide))
  mi := fun M hM => iter_inv (fun f => ∀ x, x ∈ f → (M x ↔ M s)) (fun f hf => sweep_inv (fun x => (M x ↔ M s)) ts (fun t m => by rw [hM t m]) f hf) 8 [s] (fun x hx => by rw [List.mem_singleton.mp hx])
/-! ### groups -/
def touch (t u : T3) : Bool := decide (t.2.1 ∈ [u.2.1, u.2.2]) || decide (t.2.2 ∈ [u.2.1, u.2.2])
def more (ts : List T3) (g : List T3) : List T3 := ts.filter fun t => decide (t ∉ g) && g.any (touch t)
def round (ts : List T3) (g : List T3) : List T3 := g ++ more ts g
def group (ts : List T3) : List T3 := iter (round ts) ts.length (ts.take 1)
structure Group (ts : List T3) (t0 : T3) (g : List T3) : Prop where
  st : t0 ∈ g
  sub : ∀ t, t ∈ g → t ∈ ts
  cl : ∀ t, t ∈ ts → (∃ u, u ∈ g ∧ touch t u = true) → t ∈ g
  mi : ∀ N : T3 → Prop, (∀ t u, t ∈ ts → u ∈ ts → touch t u = true → (N t ↔ N u)) → ∀ t, t ∈ g → (N t ↔ N t0)
theorem group_ok (t0 : T3) (r : List T3) : Group (t0 :: r) t0 (group (t0 :: r)) where
  st := iter_inv (fun g => t0 ∈ g) (fun g hg => List.mem_append_left _ hg) _ _ List.mem_cons_self
  sub := iter_inv (fun g => ∀ t, t ∈ g → t ∈ t0 :: r) (fun g hg t m => (List.mem_append.mp m).elim (hg t) fun m => (List.mem_filter.mp m).1) _ _ (fun t m => by
    have m : t ∈ [t0] := m
    rw [List.mem_singleton.mp m]; exact List.mem_cons_self)
  cl := by
    refine iter_closed (t0 :: r) (round (t0 :: r)) (fun g => ∀ t, t ∈ t0 :: r → (∃ u, u ∈ g ∧ touch t u = true) → t ∈ g) (fun g hg t m => (List.mem_append.mp m).elim (hg t) fun m => (List.mem_filter.mp m).1) (fun g t m => List.mem_append_left _ m) (fun g hg => ?_) (fun g hg t m ⟨u, h1, h2⟩ => ?_) _ _ (fun t m => by
      have m : t ∈ [t0] := m
      rw [List.mem_singleton.mp m]; exact List.mem_cons_self) (List.length_filter_le _ _)
    · have : more (t0 :: r) g = [] := by
        unfold more
        rw [List.filter_eq_nil_iff]
        intro t m hc
        rw [Bool.and_eq_true, decide_eq_true_eq, List.any_eq_true] at hc
        exact hc.1 (hg t m hc.2)
      unfold round
      rw [this, List.append_nil]
    · by_cases c : t ∈ g
      · exact c
      · exact hg t (List.mem_append_right _ (List.mem_filter.mpr ⟨m, by rw [Bool.and_eq_true, decide_eq_true_eq, List.any_eq_true]; exact ⟨c, u, h1, h2⟩⟩))
  mi := fun N hN => by
    have : ∀ t, t ∈ group (t0 :: r) → t ∈ t0 :: r ∧ (N t ↔ N t0) := iter_inv (fun g => ∀ t, t ∈ g → t ∈ t0 :: r ∧ (N t ↔ N t0)) (fun g hg t m => by
      rcases List.mem_append.mp m with m | m
      · exact hg t m
      · obtain ⟨m1, m2⟩ := List.mem_filter.mp m
        rw [Bool.and_eq_true, decide_eq_true_eq, List.any_eq_true] at m2
        obtain ⟨u, h1, h2⟩ := m2.2
        exact ⟨m1, (hN t u m1 (hg u h1).1 h2).trans (hg u h1).2⟩) _ _ (fun t m => by
      have m : t ∈ [t0] := m
      rw [List.mem_singleton.mp m]; exact ⟨List.mem_cons_self, Iff.rfl⟩)
    exact fun t m => (this t m).2
theorem touch_iff {t u : T3} : touch t u = true ↔ ∃ x, (x = t.2.1 ∨ x = t.2.2) ∧ (x = u.2.1 ∨ x = u.2.2) := by
  simp only [touch, Bool.or_eq_true, decide_eq_true_eq, List.mem_cons, List.not_mem_nil, or_false]
  constructor
  · rintro (h | h)
    · exact ⟨_, .inl rfl, h⟩
    · exact ⟨_, .inr rfl, h⟩
  · rintro ⟨x, rfl | rfl, h⟩
    · exact .inl h
    · exact .inr h
/-- both ways say the same -/
theorem same_hang {ts gs : List T3} {t0 g0 : T3} {f : List Int} {g : List T3} (hp : ∀ t, t ∈ gs ↔ t ∈ ts) (h0 : t0 ∈ ts) (hg0 : g0 ∈ gs) (R : Reach gs g0.2.1 f) (G : Group ts t0 g) : (∀ t, t ∈ gs → t.2.1 ∈ f) ↔ ∀ t, t ∈ ts → t ∈ g := by
  have both : ∀ t, t ∈ gs → (t.2.1 ∈ f ↔ t.2.2 ∈ f) := fun t m => ⟨fun h => (R.cl t m (.inl h)).2, fun h => (R.cl t m (.inr h)).1⟩
  constructor
  · intro h t m
    have inG : ∀ x, (∃ u, u ∈ g ∧ (x = u.2.1 ∨ x = u.2.2)) → ∀ t, t ∈ ts → (x = t.2.1 ∨ x = t.2.2) → t ∈ g := fun x ⟨u, h1, h2⟩ t m k => G.cl t m ⟨u, h1, touch_iff.mpr ⟨x, k, h2⟩⟩
    have mi := R.mi (fun x => ∃ u, u ∈ g ∧ (x = u.2.1 ∨ x = u.2.2)) fun t m => ⟨fun k => ⟨t, inG _ k t ((hp t).mp m) (.inl rfl), .inr rfl⟩, fun k => ⟨t, inG _ k t ((hp t).mp m) (.inr rfl), .inl rfl⟩⟩
    have hs := (mi t0.2.1 (h t0 ((hp t0).mpr h0))).mp ⟨t0, G.st, .inl rfl⟩
    exact inG _ ((mi t.2.1 (h t ((hp t).mpr m))).mpr hs) t m (.inl rfl)
  · intro h t m
    have mi := G.mi (fun t => t.2.1 ∈ f) fun t u m1 m2 k => by
      obtain ⟨x, h1, h2⟩ := touch_iff.mp k
      have a : (t.2.1 ∈ f ↔ x ∈ f) := by
        rcases h1 with rfl | rfl
        · exact Iff.rfl
        · exact both t ((hp t).mpr m1)
      have b : (u.2.1 ∈ f ↔ x ∈ f) := by
        rcases h2 with rfl | rfl
        · exact Iff.rfl
        · exact both u ((hp u).mpr m2)
      exact a.trans b.symm
    have hs := (mi g0 (h g0 ((hp g0).mp hg0))).mp R.st
    exact (mi t (h t ((hp t).mp m))).mpr hs
end MT
end

section
set_option maxRecDepth 100000
set_option maxHeartbeats 4000000
/-! sets made of tuples -/
namespace RS
open PySem PySem.Spec PyProof.Rows L2
section
variable {P : Program} {w : World} {A : Around} {E : Value → Shared → Prop} {s : Shared}
abbrev titer (l : Addr) : Obj := { cls := .type "tuple_iterator", data := .fields #[.ref l, .int 0 0] }
/-- the new set at S, walked into from the tuple at l -/
abbrev hp3 (w : World) (h : Heap) (l : Addr) : Heap := (h.push (emp w)).push (titer l)
theorem set_tup {l : Addr} {xs : Array Value} {Z : Heap → Prop} {Q : Value → Shared → Prop} (noh : A.handled = none) (isl : s.heap.IsTuple l xs)
    (loop : ∀ (B : Around) (t : Shared) (R : Result → Shared → Prop), B.handled = none → B.units ≤ A.units + 3 → t.heap = hp3 w s.heap l → t.gens = s.gens → t.drawn = s.drawn → t.os = s.os →
      (∀ t', Kept s t' → Z t'.heap → R (.ok (.ret .none)) t') → codeAny (model P w) B (.builtin "set.update.loop" ⟨[.ref s.heap.objs.size, .ref (s.heap.push (emp w)).objs.size], []⟩) R t)
    (fin : ∀ (g : Heap) (tk : Nat), Z g → (∀ b u, s.heap.get? b = some u → g.get? b = some u) → Q (.ref s.heap.objs.size) { s with heap := g, toks := tk }) :
    wpAny (model P w) A (call (.type "set") [.ref l]) Q E s := by
  obtain ⟨cc, tl, mro⟩ := F.called_set.mro
  have made := F.called_set.made
  have sub0 := F.called_set.sub
  refine wpAny_call (codeAny_of_tree ?_)
  change wpAny _ _ (callAny (.type "set") _) _ _ _
  refine wpAny_pure ⟨Code.quiet_builtin _ (by decide +kernel), ?_⟩
  refine codeAny_builtin F.entry_type_call ?_
  have wgt := weight_type_call_type "set" [.ref l] []
  rw [Around.under_plain wgt rfl]
  have q1 := F.called_set.notType
  have q2 := F.called_set.canCreate
  have q3 := F.typeCall_set_1 (.ref l)
  repeat (any_goals (first | assumption | wp_step))
  refine codeAny_mono (code_set_led1 (.ref l) (E := E) (Q₁ := fun v t => v = .ref s.heap.objs.size ∧ t = { s with heap := s.heap.push (emp w) }) ⟨rfl, rfl⟩) fun r t hr => ?_
  match r, hr with
  | .error e, hr => exact hr
  | .ok (.ret obj), hr =>
    obtain ⟨rfl, rfl⟩ := hr
    have atS : (s.heap.push (emp w)).get? s.heap.objs.size = some (emp w) := Heap.get?_push_size _ rfl
    have tyS : Shared.TypeIs { s with heap := s.heap.push (emp w) } (.ref s.heap.objs.size) "set" := ⟨_, atS, rfl⟩
    have i1 := F.called_set.init.lookup
    have i2 := F.called_set.init.bind (.ref s.heap.objs.size)
    repeat (any_goals (first | assumption | wp_step))
    refine codeAny_mono (codeAny_call_builtin (R := wants (fun r t => r = .none ∧ ∃ g tk, t = { s with heap := g, toks := tk } ∧ Z g ∧ ∀ b u, s.heap.get? b = some u → g.get? b = some u) E) F.called_set.init.plain F.entry_set_init (check_set_init_1 tyS ?_)) fun r t hr => ?_
    · obtain ⟨⟨ocls, odict, odata, oslots⟩, hol, hcl, nl, hdl⟩ := isl
      simp only at hcl hdl
      subst hcl; subst hdl
      have atl : (s.heap.push (emp w)).get? l = some { cls := .type "tuple", dict := odict, data := .seq xs nl, slots := oslots } := Heap.get?_push_of_some _ hol
      have n1 := F.sub_tuple_set
      have n2 := F.sub_tuple_frozenset
      have n3 : (Value.type "tuple" == Value.type "dict") = false := by decide
      have lst1 : (s.heap.push (emp w)).IsTuple l xs := ⟨_, atl, rfl, nl, rfl⟩
      unfold Builtin.«set.__init__» noKeywords Builtin.Frozenset.updateFrom
      generalize hPI : pyIter = PI
      wp_walk
      subst hPI
      refine wpAny_pyIter_tuple lst1 ?_
      refine wpAny_bind (wpAny_runValue ?_)
      refine loop _ _ _ (by simp [noh]) ?un rfl rfl rfl rfl fun t' k z => ?_
      case un => simp only [Around.in1_units]; omega
      obtain ⟨g, g2, d', tk', os'⟩ := t'
      obtain ⟨k1, k2, k3, k4⟩ := k
      dsimp only at k1 k2 k3
      subst k1; subst k2; subst k3
      change wpAny _ _ _ _ _ _
      refine wpAny_pure ?_
      change wpAny _ _ (ret Value.none) _ _ _
      exact wpAny_pure ⟨rfl, g, tk', rfl, z, k4⟩
    · match r, hr with
      | .error e, hr => exact hr
      | .ok (.ret v), hr =>
        obtain ⟨rfl, g, tk, rfl, z, k⟩ := hr
        repeat (any_goals (first | assumption | wp_step))
        exact fin _ _ z k
end
end RS
end

section
set_option maxRecDepth 100000
set_option maxHeartbeats 4000000
namespace RL
open PySem PySem.Spec L2 OrdX
open PyProof.Rows hiding St
/-- set(t), t a tuple of tuples of ints -/
def rSetTT (K : PySem.W.Frag) (P : Program) (w : World) : List V → Hp → VK → Prop := fun xs H Q => ∃ (l : Addr) (ks : List (Addr × List Int)), xs = [V.ref l] ∧ SqT K H l (ks.map fun p => V.ref p.1) ∧ (∀ p ∈ ks, SqT K H p.1 (p.2.map V.int)) ∧ ks.length < 64 ∧
  ∀ a L, H a = none → (∀ p ∈ L, p ∈ ks) → (∀ p ∈ ks, p.2 ∈ L.map (·.2)) → Q (.ref a) (upd H a (SetTO P w a L))
theorem refs_at {ks : List (Addr × List Int)} {us : List Value} (h : Vals (ks.map fun p => V.ref p.1) us) : us = ks.map fun p => Value.ref p.1 := by
  induction ks generalizing us with
  | nil => cases h; rfl
  | cons p r ih =>
    cases h with
    | cons a t => rw [ih t, show _ = Value.ref p.1 from a]; rfl
theorem cr_setTT {X : Cx} (hc : X.calm = true) (hu : X.A.units + 64 < cLine) : CallR X (.type "set") (rSetTT X.K X.prog X.w) := by
  intro pins s σ H vs us Q I rv ⟨l, ks, e, hl, hk, hf, q⟩
  subst e
  rw [Vals.ref1 rv]
  obtain ⟨its, ri, pl, _⟩ := I.tuple hl
  have noh := I.ok.hd hc
  have isl : s.heap.IsTuple l its.toArray := pl
  have eqs := refs_at ri
  have hsz : its.toArray.size = ks.length := by rw [List.size_toArray, eqs, List.length_map]
  have lt : l < s.heap.objs.size := by
    obtain ⟨o, ho, _⟩ := isl
    exact Heap.lt_size ho
  have ne1 : l ≠ (s.heap.push (RS.emp X.w)).objs.size := by rw [Heap.size_push]; exact Nat.ne_of_lt (Nat.lt_succ_of_lt lt)
  have ne2 : s.heap.objs.size ∉ [(s.heap.push (RS.emp X.w)).objs.size, l] := by
    rw [Heap.size_push]
    simp only [List.mem_cons, List.not_mem_nil, or_false, not_or]
    exact ⟨Nat.ne_of_lt (Nat.lt_succ_self _), Nat.ne_of_gt lt⟩
  have none_of : ∀ b, s.heap.objs.size ≤ b → s.heap.get? b = none := fun b hb => by
    cases z : s.heap.get? b with
    | none => rfl
    | some o => exact absurd (Nat.lt_of_lt_of_le (Heap.lt_size z) hb) (Nat.lt_irrefl _)
  have tups : ∀ p ∈ ks, IsT X.prog X.w s.heap p.2 p.1 := fun p hp => I.isT (hk p hp)
  refine RS.set_tup (Z := fun g => ∃ L es ep t, SetTR X.prog X.w g s.heap.objs.size L es ep t ∧ Got ks ks.length L) noh isl (fun B t R hB hBu ht hg hd ho hR => ?_) fun g tk ⟨L, es, ep, t, hS, hgot⟩ k => ?_
  · have W := (Walks.tuple (prog := X.prog) (w := X.w) (A := B.in1) (by simpa using hB) _ l ne1 its.toArray).toS
    have lst2 : t.heap.IsTuple l its.toArray := by rw [ht]; exact (isl.push _).push _
    have itr : t.heap.IsTupleIter (s.heap.push (RS.emp X.w)).objs.size l 0 := by rw [ht]; exact ⟨_, Heap.get?_push_size _ rfl, rfl, rfl⟩
    have atS : t.heap.get? s.heap.objs.size = some (RS.emp X.w) := by rw [ht]; exact Heap.get?_push_of_some _ (Heap.get?_push_size _ rfl)
    refine set_update_tups W s.heap.objs.size ne2 ks hsz hf (fun i v hv => ?_) s.heap tups (none_of _ (Nat.le_refl _)) (fun b hb => none_of b ?_) (by simp only [Around.in1_units]; omega) (its.toArray.size - 0) 0 t rfl (Nat.zero_le _) ⟨itr, lst2⟩ (fun b u e => by rw [ht]; exact Heap.get?_push_of_some _ (Heap.get?_push_of_some _ e)) ⟨[], #[], 0, _, setTR_fresh atS, Got.zero ks⟩ fun t' L es ep tb hm hS' hgot hkp => hR t' ⟨?_, ?_, ?_, hkp⟩ ⟨L, es, ep, tb, hS', by rw [← hsz]; exact hgot⟩
    · have q2 : its[i]? = some v := by simpa using hv
      rw [eqs, List.getElem?_map] at q2
      cases hq : ks[i]? with
      | none => rw [hq] at q2; cases q2
      | some p => rw [hq] at q2; exact ⟨p, rfl, (Option.some.inj q2).symm⟩
    · rw [List.mem_singleton.mp hb, Heap.size_push]
      exact Nat.le_succ _
    · rw [← hg]; exact hm.gens
    · rw [← hd]; exact hm.drawn
    · rw [← ho]; exact hm.os
  · have fresh : H s.heap.objs.size = none := I.hok.fresh (Nat.le_refl _)
    refine ⟨.ref s.heap.objs.size, upd H s.heap.objs.size (SetTO X.prog X.w s.heap.objs.size L), I.laid (t' := tk) k (Nat.le_refl _) (setTO_new hS.t0), rfl, q _ L fresh (fun p hp => List.mem_of_mem_take (hgot.sub p hp)) fun p hp => hgot.all p (by rw [List.take_length]; exact hp)⟩

/-- sorted(set(t)) of a tuple of tuples of ints -/
def gSrtSetT (w : W) (S : Store) : Res W := match tupL w with
  | some ws => if ws.length < 64 then (match tupsW ws with
      | some ks => if shapeT ks = true then .ok (.lst ((usrt lexL ks).map fun k => .tup (k.map W.int))) S else .bad
      | none => .bad) else .bad
  | none => .bad
section
variable {X : Cx} {E : XK} {a : Expr} {ma : SM W} {p1 p2 q pos : Pos}
theorem pm_srtsetT (hc : X.calm = true) (hu : X.A.units + 64 < cLine) (hg : Gl X "sorted") (hm : X.mg "sorted" = none) (hg2 : Gl X "set") (hm2 : X.mg "set" = none) (ha : PM X E a ma) (hs : starEach [a] X.env = [(false, eval a X.env)] := by rfl)
    (hs2 : starEach [Expr.Call (.Name "set" p2) [a] [] q] X.env = [(false, eval (Expr.Call (.Name "set" p2) [a] [] q) X.env)] := by rfl) : PM X E (.Call (.Name "sorted" p1) [.Call (.Name "set" p2) [a] [] q] [] pos) (mUn gSrtSetT ma) := by
  have h1 := pe_callTy (p := p2) (pos := q) (cr_setTT (X := X) hc hu) hg2 hm2 (by decide +kernel) (pa_cons ha pa_nil hs) (by decide +kernel) (by decide +kernel) hs rfl
  have h2 := pe_callB (p := p1) (pos := pos) (cr_sortedT (X := X) hc) hg hm (by decide +kernel) (pa_cons h1 pa_nil hs2) (by decide +kernel) (by decide +kernel) hs2 rfl
  refine pe_imp h2 fun σ H Q h => ?_
  show tE X E ma σ H fun x H1 => _
  refine tX.bind (m := ma) (k := fun w s S => gSrtSetT w S) h fun ρ H1 w x s S1 rep env r o => ?_
  cases w with
  | tup ws =>
    cases r with
    | @tup l vs _ hf hr =>
      dsimp only [gSrtSetT, tupL] at o
      split at o
      · rename_i h64
        cases e5 : tupsW ws with
        | none => rw [e5] at o; exact o.elim
        | some ks =>
          simp only [e5] at o
          split at o
          · rename_i hsh
            obtain ⟨d, B, hd, hB⟩ := shape_of hsh
            obtain ⟨ps, rfl, rfl, hps⟩ := tupsW_of e5 hr
            have hlen : ps.length < 64 := by rw [hr.length, List.length_map] at h64; exact h64
            refine ⟨l, ps, rfl, sqT_of hf, fun p m => (hps p m).1, hlen, fun p L hp hL1 hL2 => ⟨p, L, d, B, rfl, upd_same, fun z m => ?_, hd, fun z m => hB _ (List.mem_map.mpr ⟨z, hL1 z m, rfl⟩), fun L' p3 pm nd h64' pw hp3 => ?_⟩⟩
            · obtain ⟨e3, rep3⟩ := rep.tree hp (SetTO X.prog X.w p L)
              have rr := (hps z (hL1 z m)).2.ext e3
              cases rr with
              | tup hf2 hr2 =>
                have := rws_ints hr2
                subst this
                exact sqT_of hf2
            · obtain ⟨e3, rep3⟩ := rep.tree hp (SetTO X.prog X.w p L)
              obtain ⟨e4, rep4⟩ := rep3.tree hp3 (.lst (L'.map fun q => V.ref q.1))
              have inps : ∀ z, z ∈ L' → z ∈ ps := fun z m => hL1 z (pm.mem_iff.mp m)
              have codes : (L'.map (·.2)).Pairwise fun a b => lexL b a = false := pw_codes (d := d) (B := B) (fun k hk => by
                obtain ⟨z, m, rfl⟩ := List.mem_map.mp hk
                exact hB _ (List.mem_map.mpr ⟨z, inps z m, rfl⟩)) (List.pairwise_map.mpr pw)
              have strict : (L'.map (·.2)).Pairwise fun a b => lexL a b = true := by
                refine (codes.and nd).imp fun {a b} hab => ?_
                rcases totL.tri a b hab.2 with z | z
                · exact z
                · rw [hab.1] at z; cases z
              have eq : L'.map (·.2) = usrt lexL (ps.map (·.2)) := usrt_eq totL (fun k => ⟨fun m => ?_, fun m => ?_⟩) strict
              · have hall : ∀ z, z ∈ L' → RW X.K X.mg ρ (upd (upd H1 p (SetTO X.prog X.w p L)) p3 (.lst (L'.map fun q => V.ref q.1))) (.tup (z.2.map W.int)) (.ref z.1) := fun z m => ((hps z (inps z m)).2.ext e3).ext e4
                have rr := pairs_rws hall
                rw [eq] at rr
                exact o ρ _ _ (e3.trans e4) rep4 (.lst (fx_new rep3 hp3 _) rr)
              · obtain ⟨z, hz, rfl⟩ := List.mem_map.mp m
                exact List.mem_map.mpr ⟨z, inps z hz, rfl⟩
              · obtain ⟨z, hz, rfl⟩ := List.mem_map.mp m
                obtain ⟨y, hy, e⟩ := List.mem_map.mp (hL2 z hz)
                exact List.mem_map.mpr ⟨y, pm.mem_iff.mpr hy, e⟩
          · exact o.elim
      · exact o.elim
  | _ => exact o.elim
end
end RL
end

section
set_option maxRecDepth 100000
set_option maxHeartbeats 2000000
namespace MT
theorem iter_mu {β : Type} (F : β → β) (P : β → Prop) (μ : β → Nat) (h1 : ∀ x, P x → P (F x)) (h2 : ∀ x, ¬ P x → μ (F x) < μ x) : ∀ k x, μ x ≤ k → P (iter F k x)
  | 0, x, h => by
    by_cases c : P x
    · exact c
    · have := h2 x c; omega
  | k + 1, x, h => by
    show P (iter F k (F x))
    by_cases c : P x
    · exact iter_inv P h1 k _ (h1 x c)
    · have := h2 x c
      exact iter_mu F P μ h1 h2 k (F x) (by omega)
def step2 (f : List Int) (t : T3) : List Int := if t.2.1 ∈ f ∨ t.2.2 ∈ f then f ++ [t.2.1, t.2.2] else f
def sweep2 (ts : List T3) (f : List Int) : List Int := ts.foldl step2 f
theorem mem_step2 {f : List Int} {t : T3} {x : Int} : x ∈ step2 f t ↔ x ∈ f ∨ ((t.2.1 ∈ f ∨ t.2.2 ∈ f) ∧ (x = t.2.1 ∨ x = t.2.2)) := by
  unfold step2
  split
  · rename_i h
    rw [List.mem_append]
    simp only [List.mem_cons, List.not_mem_nil, or_false]
    exact ⟨fun k => k.elim .inl fun k => .inr ⟨h, k⟩, fun k => k.elim .inl fun k => .inr k.2⟩
  · rename_i h
    exact ⟨.inl, fun h1 => h1.elim id fun z => absurd z.1 h⟩
theorem sweep2_sub : ∀ (ts : List T3) (f : List Int) (x : Int), x ∈ f → x ∈ sweep2 ts f
  | [], f, x, h => h
  | t :: r, f, x, h => sweep2_sub r (step2 f t) x (mem_step2.mpr (.inl h))
theorem sweep2_all : ∀ (ts : List T3) (f : List Int) (t : T3), t ∈ ts → (t.2.1 ∈ f ∨ t.2.2 ∈ f) → t.2.1 ∈ sweep2 ts f ∧ t.2.2 ∈ sweep2 ts f
  | u :: r, f, t, h, hf => by
    rcases List.mem_cons.mp h with rfl | h
    · exact ⟨sweep2_sub r _ _ (mem_step2.mpr (.inr ⟨hf, .inl rfl⟩)), sweep2_sub r _ _ (mem_step2.mpr (.inr ⟨hf, .inr rfl⟩))⟩
    · exact sweep2_all r (step2 f u) t h (hf.imp (fun z => mem_step2.mpr (.inl z)) fun z => mem_step2.mpr (.inl z))
theorem sweep2_inv (I : Int → Prop) : ∀ (ts : List T3), (∀ t, t ∈ ts → (I t.2.1 ↔ I t.2.2)) → ∀ (f : List Int), (∀ x, x ∈ f → I x) → ∀ x, x ∈ sweep2 ts f → I x
  | [], _, f, h, x, hx => h x hx
  | t :: r, ht, f, h, x, hx => sweep2_inv I r (fun u m => ht u (List.mem_cons_of_mem _ m)) (step2 f t) (fun z hz => by
      have k := ht t List.mem_cons_self
      rcases mem_step2.mp hz with hz | ⟨h1, rfl | rfl⟩
      · exact h z hz
      · exact h1.elim (h _) fun h1 => k.mpr (h _ h1)
      · exact h1.elim (fun h1 => k.mp (h _ h1)) (h _)) x hx
def Clo (ts : List T3) (f : List Int) : Prop := ∀ t, t ∈ ts → (t.2.1 ∈ f ∨ t.2.2 ∈ f) → t.2.1 ∈ f ∧ t.2.2 ∈ f
theorem sweep2_mem {ts : List T3} {f : List Int} (h : Clo ts f) (x : Int) (hx : x ∈ sweep2 ts f) : x ∈ f :=
  sweep2_inv (· ∈ f) ts (fun t m => ⟨fun k => (h t m (.inl k)).2, fun k => (h t m (.inr k)).1⟩) f (fun _ h => h) x hx
def joined (ts : List T3) (t0 : T3) : List Int := iter (sweep2 ts) ts.length [t0.2.1, t0.2.2]
theorem joined_ok {t0 : T3} {r : List T3} : Reach (t0 :: r) t0.2.1 (joined (t0 :: r) t0) where
  st := iter_inv (fun f => t0.2.1 ∈ f) (fun f hf => sweep2_sub _ f _ hf) _ _ List.mem_cons_self
  cl := by
    refine iter_mu (sweep2 (t0 :: r)) (Clo (t0 :: r)) (fun f => ((t0 :: r).filter fun t => !(decide (t.2.1 ∈ f) && decide (t.2.2 ∈ f))).length) (fun f h t m k => ?_) (fun f h => ?_) _ _ (List.length_filter_le _ _)
    · have := h t m (k.imp (sweep2_mem h _) (sweep2_mem h _))
      exact ⟨sweep2_sub _ _ _ this.1, sweep2_sub _ _ _ this.2⟩
    · have : ∃ t, t ∈ t0 :: r ∧ (t.2.1 ∈ f ∨ t.2.2 ∈ f) ∧ ¬ (t.2.1 ∈ f ∧ t.2.2 ∈ f) := by
        by_cases d : ∃ t, t ∈ t0 :: r ∧ (t.2.1 ∈ f ∨ t.2.2 ∈ f) ∧ ¬ (t.2.1 ∈ f ∧ t.2.2 ∈ f)
        · exact d
        · refine absurd (fun t m k => ?_) h
          by_cases e : t.2.1 ∈ f ∧ t.2.2 ∈ f
          · exact e
          · exact absurd ⟨t, m, k, e⟩ d
      obtain ⟨t, m, k1, k2⟩ := this
      have both := sweep2_all _ f t m k1
      have nb : ∀ {f : List Int} {t : T3}, (!(decide (t.2.1 ∈ f) && decide (t.2.2 ∈ f))) = true ↔ ¬ (t.2.1 ∈ f ∧ t.2.2 ∈ f) := fun {f t} => by
        rw [Bool.not_eq_true', ← Bool.not_eq_true, Bool.and_eq_true, decide_eq_true_eq, decide_eq_true_eq]
      refine filter_lt (fun u _ hu => nb.mpr fun z => nb.mp hu ⟨sweep2_sub _ _ _ z.1, sweep2_sub _ _ _ z.2⟩) ⟨t, m, nb.mpr k2, by simp [both.1, both.2]⟩
  mi := fun M hM => iter_inv (fun f => ∀ x, x ∈ f → (M x ↔ M t0.2.1)) (fun f hf => sweep2_inv (fun x => (M x ↔ M t0.2.1)) _ (fun t m => by rw [hM t m]) f hf) _ _ (fun x hx => by
    simp only [List.mem_cons, List.not_mem_nil, or_false] at hx
    rcases hx with rfl | rfl
    · exact Iff.rfl
    · exact (hM t0 List.mem_cons_self).symm)
theorem reach_uniq {ts : List T3} {s : Int} {f g : List Int} (a : Reach ts s f) (b : Reach ts s g) (x : Int) : x ∈ f ↔ x ∈ g := by
  have one : ∀ {f g : List Int}, Reach ts s f → Reach ts s g → ∀ x, x ∈ f → x ∈ g := fun {f g} a b x hx =>
    (a.mi (· ∈ g) (fun t m => ⟨fun h => (b.cl t m (.inl h)).2, fun h => (b.cl t m (.inr h)).1⟩) x hx).mpr b.st
  exact ⟨one a b x, one b a x⟩
end MT
end

section
set_option maxRecDepth 100000
set_option maxHeartbeats 4000000
namespace LT
open PySem PySem.Spec L2 RL LC MT OrdX
open PyProof.Rows hiding St
def sh_reached : SS := (mSeq (mAsg (mAp gLst (mCons (mVar 1) mNil)) (gNm 2))
  (mSeq (mFor (mRange1 (mCons (mC (.int 8)) mNil)) (gNm 3) (mFor (mItems (mVar 0)) (gTp 3 (gCons (gNm 4) (gCons (gNm 5) (gCons (gNm 6) gNil)))) (mIf (mOrT (mBT (gIn false) (mVar 5) (mVar 2)) (mBT (gIn false) (mVar 6) (mVar 2))) (mAsg (mBin gAdd (mVar 2) (mLc (mItems (mAp gTup (mCons (mVar 5) (mCons (mVar 6) mNil)))) [7] (gNm 7) (mBT (gIn true) (mVar 7) (mVar 2)) (mVar 7))) (gNm 2)) mSkip)))
  (mRet (mUn gSrtSet (mVar 2)))))
def G_reached : Fn := runB 8 sh_reached
def sh_hang_together : SS := (mSeq (mIf (mBT (gEq false) (mAp (g1 gLen) (mCons (mVar 0) mNil)) (mC (.int 0))) (mRet (mC (.bl true))) mSkip)
  (mSeq (mAsg (mAp G_reached (mCons (mVar 0) (mCons (mBin gIx (mBin gIx (mVar 0) (mC (.int 0))) (mC (.int 1))) mNil))) (gNm 1))
  (mRet (mAp (g1 gAll) (mCons (mLc (mItems (mVar 0)) [2, 3, 4] (gTp 3 (gCons (gNm 2) (gCons (gNm 3) (gCons (gNm 4) gNil)))) mYes (mBin (gIn false) (mVar 3) (mVar 1))) mNil)))))
def G_hang_together : Fn := runB 5 sh_hang_together
def tieW (t : T3) : W := .tup [.int t.1, .int t.2.1, .int t.2.2]
theorem nodup_le {α : Type} [DecidableEq α] : ∀ {l U : List α}, l.Nodup → (∀ x, x ∈ l → x ∈ U) → l.length ≤ U.length
  | [], U, _, _ => Nat.zero_le _
  | x :: l, U, h, hs => by
    rw [List.nodup_cons] at h
    have hx := hs x List.mem_cons_self
    have := nodup_le (U := U.erase x) h.2 fun y m => (List.mem_erase_of_ne (fun e : y = x => h.1 (by rw [← e]; exact m))).mpr (hs y (List.mem_cons_of_mem _ m))
    rw [List.length_erase_of_mem hx] at this
    have hp := List.length_pos_of_mem hx
    rw [List.length_cons]
    omega
structure Good (f : List Int) : Prop where
  nd : f.Nodup
  sub : ∀ x, x ∈ f → x ∈ labels8
theorem Good.len {f : List Int} (g : Good f) : f.length ≤ 8 := nodup_le g.nd g.sub
theorem good_step {f : List Int} {t : T3} (g : Good f) (ht : inL t) : Good (step1 f t) := by
  refine ⟨?_, fun x hx => ?_⟩
  · unfold step1
    split
    · rename_i hc
      refine List.nodup_append.mpr ⟨g.nd, ?_, fun a ha b hb e => ?_⟩
      · by_cases e : t.2.1 = t.2.2
        · have : [t.2.1, t.2.2].filter (fun x => decide (x ∉ f)) = [] := by
            rw [List.filter_eq_nil_iff]
            intro x hx
            simp only [List.mem_cons, List.not_mem_nil, or_false] at hx
            rcases hc with hc | hc <;> rcases hx with rfl | rfl <;> simp_all
          rw [this]
          exact List.nodup_nil
        · exact List.Pairwise.filter _ (show [t.2.1, t.2.2].Nodup by simp [e])
      · have := (List.mem_filter.mp hb).2
        subst e
        simp [ha] at this
    · exact g.nd
  · rcases mem_step1.mp hx with h | ⟨_, rfl | rfl⟩
    · exact g.sub x h
    · exact ht.1
    · exact ht.2
section
variable {S : Store} {w : W} {ts : List T3} {s : Int}
theorem reached_ok (h : Seq S w (ts.map tieW)) (hn : ts.length ≤ 64) (hL : ∀ t, t ∈ ts → inL t) (hs : s ∈ labels8) : G_reached [w, .int s] S = .ok (.lst ((usrt ltI (reach ts s)).map .int)) S := by
  refine Ev.eq ?_
  have ht : turns = 100000 := rfl
  have ok8 : okR 8 = true := by decide
  simp only [G_reached, runB_eq, sh_reached, startW, mSeq_eq, mAsg_eq, mAp_eq, mCons_eq, mNil_eq, mVar_0, mVar_s, mC_eq, ok_bind, gNm_eq, ev_bind, ev_ok, List.map_cons, List.map_nil, List.length_cons, List.length_nil, List.replicate, List.cons_append, List.nil_append, List.set_cons_succ, List.set_cons_zero, seqK_nx, gLst_eq, mFor_eq, mRange1_eq, rng1_eq, ok8, if_true, mForI_fix, show (0 + 1 ≤ lim) from by decide]
  refine Ev.mono (forL_ev (fun r e T => T = S ∧ ∃ f o3 o4 o5 o6, Good f ∧ e = [some w, some (.int s), some (.lst (f.map .int)), o3, o4, o5, o6, none] ∧ iter (sweep ts) r.length f = reach ts s) ?_ _ _ _ ⟨rfl, [s], none, none, none, none, ⟨by simp, fun x hx => by rw [List.mem_singleton.mp hx]; exact hs⟩, rfl, rfl⟩) ?_
  · rintro u r e T ⟨rfl, f, o3, o4, o5, o6, gf, rfl, hi⟩
    obtain ⟨it, e1, e2⟩ := items_seq (s := [some w, some (.int s), some (.lst (f.map .int)), some u, o4, o5, o6, none]) (ma := mVar 0) h rfl
    simp only [gNm_eq, ev_ok, List.set_cons_succ, List.set_cons_zero, mFor_eq, e1, ok_bind]
    refine Ev.mono (forI_ev (ws := ts.map tieW) (fun r e T' => T' = T ∧ ∃ (rs : List T3) (f1 : List Int) (o4 o5 o6 : Option W), r = rs.map tieW ∧ (∀ t, t ∈ rs → inL t) ∧ Good f1 ∧ e = [some w, some (.int s), some (.lst (f1.map .int)), some u, o4, o5, o6, none] ∧ sweep rs f1 = sweep ts f) (fun r e T' q => by rw [q.1]; exact e2) (by rw [List.length_map, ht]; omega) ?_ ⟨rfl, ts, f, o4, o5, o6, rfl, hL, gf, rfl, rfl⟩) ?_
    · rintro v r' e T' ⟨rfl, rs, f1, o4, o5, o6, hr, hL1, g1, rfl, hsw⟩
      cases rs with
      | nil => cases hr
      | cons t rs =>
        rw [List.map_cons, List.cons.injEq] at hr
        obtain ⟨rfl, rfl⟩ := hr
        have i1 : ∀ T, gIn false (.int t.2.1) (.lst (f1.map .int)) T = .ok (.bl (decide (t.2.1 ∈ f1))) T := fun T => by rw [gIn_ints (ys := f1) rfl, xorB_f]
        have i2 : ∀ T, gIn false (.int t.2.2) (.lst (f1.map .int)) T = .ok (.bl (decide (t.2.2 ∈ f1))) T := fun T => by rw [gIn_ints (ys := f1) rfl, xorB_f]
        have j1 : ∀ T x, gIn true (.int x) (.lst (f1.map .int)) T = .ok (.bl (!decide (x ∈ f1))) T := fun T x => by rw [gIn_ints (ys := f1) rfl, xorB_t]
        have gl := g1.len
        have gs := good_step g1 (hL1 t List.mem_cons_self)
        have gsl := gs.len
        have hlim : lim = 16777216 := rfl
        have fin : ∀ f2, f2 = step1 f1 t → T' = T' ∧ ∃ (rs' : List T3) (f1' : List Int) (o4 o5 o6 : Option W), rs.map tieW = rs'.map tieW ∧ (∀ t, t ∈ rs' → inL t) ∧ Good f1' ∧ [some w, some (.int s), some (.lst (f2.map .int)), some u, some (.int t.1), some (.int t.2.1), some (.int t.2.2), none] = [some w, some (.int s), some (.lst (f1'.map .int)), some u, o4, o5, o6, none] ∧ sweep rs' f1' = sweep ts f := by
          rintro f2 rfl
          exact ⟨rfl, rs, step1 f1 t, _, _, _, rfl, fun t m => hL1 t (List.mem_cons_of_mem _ m), gs, rfl, hsw⟩
        by_cases hc : t.2.1 ∈ f1 ∨ t.2.2 ∈ f1
        · have e2 : step1 f1 t = f1 ++ [t.2.1, t.2.2].filter fun x => decide (x ∉ f1) := by unfold step1; rw [if_pos hc]
          have hl : f1.length + ([t.2.1, t.2.2].filter fun x => decide (x ∉ f1)).length ≤ lim := by
            rw [e2, List.length_append] at gsl
            omega
          have fin2 := fin _ e2.symm
          have hc1 : (decide (t.2.1 ∈ f1) || decide (t.2.2 ∈ f1)) = true := by simpa using hc
          refine Ev.of (a := [some w, some (.int s), some (.lst (f1.map .int)), some u, some (.int t.1), some (.int t.2.1), some (.int t.2.2), none]) (S := T') (by simp [tieW]) (Ev.of (a := (.nx, [some w, some (.int s), some (.lst ((f1 ++ [t.2.1, t.2.2].filter fun x => decide (x ∉ f1)).map .int)), some u, some (.int t.1), some (.int t.2.1), some (.int t.2.2), none])) (S := T') ?_ ⟨rfl, fin2⟩)
          by_cases m1 : t.2.1 ∈ f1 <;> by_cases m2 : t.2.2 ∈ f1
          · simp [i1, i2, j1, m1, m2, wipeW, show f1.length ≤ 16777216 by omega]
          · simp [i1, i2, j1, m1, m2, wipeW, show f1.length + 1 ≤ 16777216 by omega]
          · simp [i1, i2, j1, m1, m2, wipeW, show f1.length + 1 ≤ 16777216 by omega]
          · exact absurd hc (by simp [m1, m2])
        · have e2 : step1 f1 t = f1 := by unfold step1; rw [if_neg hc]
          have fin2 := fin _ e2.symm
          rw [not_or] at hc
          exact Ev.of (a := [some w, some (.int s), some (.lst (f1.map .int)), some u, some (.int t.1), some (.int t.2.1), some (.int t.2.2), none]) (S := T') (by simp [tieW]) (Ev.of (S := T') (by simp [i1, i2, hc.1, hc.2]; rfl) ⟨rfl, fin2⟩)
    · rintro p T' ⟨hp, rfl, rs, f1, o4, o5, o6, hr, _, g1, he, hsw⟩
      obtain ⟨fl, e⟩ := p
      cases hp
      dsimp only at he
      subst he
      cases rs with
      | cons t rs => cases hr
      | nil => exact ⟨rfl, rfl, f1, _, _, _, _, g1, rfl, by rw [← hi]; show iter (sweep ts) r.length f1 = _; rw [show f1 = sweep ts f from hsw]; rfl⟩
  · rintro p T ⟨hp, rfl, f, o3, o4, o5, o6, gf, he, hi⟩
    obtain ⟨fl, e⟩ := p
    cases hp
    dsimp only at he
    subst he
    have hi : f = reach ts s := hi
    subst hi
    have gl := gf.len
    have iw : ∀ l : List Int, intsW (l.map W.int) = some l := fun l => by
      induction l with
      | nil => rfl
      | cons x r ih => simp [intsW, ih]
    simp [gSrtSet, iw, show (reach ts s).length < 64 by omega]
end

def hangB (ts : List T3) : Bool := match ts with
  | [] => true
  | t0 :: r => (t0 :: r).all fun t => decide (t.2.1 ∈ reach (t0 :: r) t0.2.1)
section
variable {S : Store} {w : W} {ts : List T3}
theorem hang_ok (h : Seq S w (ts.map tieW)) (hn : ts.length ≤ 64) (hL : ∀ t, t ∈ ts → inL t) : G_hang_together [w] S = .ok (.bl (hangB ts)) S := by
  have hlen := len_seq h
  rw [List.length_map] at hlen
  cases ts with
  | nil => simp [G_hang_together, runB_eq, sh_hang_together, startW, hlen, hangB]
  | cons t0 r =>
    have labs := reached_ok h hn hL (hL t0 List.mem_cons_self).1
    have hix : gIx w (.int 0) S = .ok (tieW t0) S := ix_seq h (by simp)
    have hix1 : gIx (tieW t0) (.int 1) S = .ok (.int t0.2.1) S := by simp [tieW]
    have hne : ¬ (((t0 :: r).length : Nat) : Int) = 0 := by simp; omega
    generalize hF : reach (t0 :: r) t0.2.1 = F at labs
    obtain ⟨it, e1, e2⟩ := items_seq (s := [some w, some (.lst ((usrt ltI F).map .int)), none, none, none]) (ma := mVar 0) h rfl
    have lc := lcI_fp (S := S) (g := gTp 3 (gCons (gNm 2) (gCons (gNm 3) (gCons (gNm 4) gNil)))) (t := mYes) (e := mBin (gIn false) (mVar 3) (mVar 1)) (s0 := [some w, some (.lst ((usrt ltI F).map .int)), none, none, none]) (fun _ => true) (fun u => match u with
      | .tup [_, .int x, _] => .bl (decide (x ∈ F))
      | u => u) e2 (by rw [List.length_map]; have : turns = 100000 := rfl; omega) (fun u hu => by
        obtain ⟨t, m, rfl⟩ := List.mem_map.mp hu
        refine ⟨[some w, some (.lst ((usrt ltI F).map .int)), some (.int t.1), some (.int t.2.1), some (.int t.2.2)], by simp [tieW], rfl, fun _ => ?_⟩
        have i1 : gIn false (.int t.2.1) (.lst ((usrt ltI F).map .int)) S = .ok (.bl (decide (t.2.1 ∈ F))) S := by
          rw [gIn_ints (ys := usrt ltI F) rfl, xorB_f]
          have : decide (t.2.1 ∈ usrt ltI F) = decide (t.2.1 ∈ F) := by rw [decide_eq_decide]; exact mem_usrt totI _ _
          rw [this]
        simp [i1, tieW])
    have hall : blsW (((t0 :: r).map tieW).map fun u => match u with
      | .tup [_, .int x, _] => .bl (decide (x ∈ F))
      | u => u) = some ((t0 :: r).map fun t => decide (t.2.1 ∈ F)) := by
      rw [List.map_map]
      exact blsW_map (fun t : T3 => decide (t.2.1 ∈ F)) (t0 :: r)
    have filt : (((t0 :: r).map tieW).filter fun _ => true) = (t0 :: r).map tieW := List.filter_eq_self.mpr fun _ _ => rfl
    rw [filt] at lc
    have e3 : hangB (t0 :: r) = ((t0 :: r).map fun t => decide (t.2.1 ∈ F)).all id := by
      rw [List.all_map]
      show (t0 :: r).all (fun t => decide (t.2.1 ∈ reach (t0 :: r) t0.2.1)) = _
      rw [hF]
      rfl
    rw [e3]
    clear e3 hF filt hn hL
    revert hlen hne lc hall h e2
    generalize t0 :: r = TT
    intro h hlen hne e2 lc hall
    refine Ev.eq ?_
    simp only [G_hang_together, runB_eq, sh_hang_together, startW, mSeq_eq, mIf_eq, mBT_eq, mAp_eq, mCons_eq, mNil_eq, mVar_0, mVar_s, mC_eq, ok_bind, g1_eq, hlen, gEq_int, xorB_f, asB_ok, decide_eq_false hne, Bool.false_eq_true, if_false, mSkip_eq, seqK_nx, mAsg_eq, mBin_eq, hix, hix1, labs, gNm_eq, List.map_cons, List.map_nil, List.length_cons, List.length_nil, List.replicate, List.cons_append, List.nil_append, List.set_cons_succ, List.set_cons_zero, mRet_eq, mLc_eq, wipeW, e1]
    rw [lc]
    simp only [ok_bind, g1_eq, gAll, seqL_lst, Option.bind_some, hall, runK_rt, ev_ok]
    exact ⟨trivial, trivial⟩
end

theorem lst_push {A : Store} {n : Nat} {x : Ob} (h : A.length = n) : (A ++ [x])[n]? = some x := by
  subst h
  simp
theorem set_push {A : Store} {n : Nat} {x y : Ob} (h : A.length = n) : (A ++ [x]).set n y = A ++ [y] := by
  subst h
  rw [List.set_append_right _ _ (Nat.le_refl _), Nat.sub_self]
  rfl
theorem ins_perm {α : Type} (us : List α) (w : α) (i : Nat) : (us.take i ++ [w] ++ us.drop i).Perm (us ++ [w]) := by
  have h1 : (us.take i ++ [w] ++ us.drop i).Perm (us.take i ++ (us.drop i ++ [w])) := by
    rw [List.append_assoc]
    exact List.Perm.append_left _ (List.perm_append_comm (l₁ := [w]))
  rw [← List.append_assoc, List.take_append_drop] at h1
  exact h1
/-! ties as data -/
def dTie (t : T3) : PyData := .tuple [.int t.1, .int t.2.1, .int t.2.2]
def tieL (t : T3) : List Int := [t.1, t.2.1, t.2.2]
theorem toD_tie (t : T3) : toD (tieW t) = some (dTie t) := rfl
theorem toDs_ties : ∀ g : List T3, toDs (g.map tieW) = some (g.map dTie)
  | [] => rfl
  | t :: r => by
    rw [List.map_cons, toDs, toD_tie, toDs_ties r]
    rfl
theorem lay_ties : ∀ g : List T3, PyData.canLayAll0 (g.map dTie) = true
  | [] => rfl
  | t :: r => by
    rw [List.map_cons, PyData.canLayAll0, lay_ties r]
    rfl
theorem depth_tie (t : T3) : PyData.depth (dTie t) ≤ 2 := by
  show PyData.depth (.tuple [.int _, .int _, .int _]) ≤ 2
  simp [PyData.depth, PyData.depthAll]
theorem depth_ties : ∀ g : List T3, PyData.depthAll (g.map dTie) ≤ 2
  | [] => by simp [PyData.depthAll]
  | t :: r => by
    have h1 := depth_ties r
    have h2 := depth_tie t
    rw [List.map_cons, PyData.depthAll]
    omega
theorem shaped_tie (t : T3) : SeqAt.shaped (dTie t) = true := by
  unfold SeqAt.shaped
  rw [Bool.and_eq_true, decide_eq_true_eq]
  exact ⟨rfl, by have := depth_tie t; omega⟩
theorem shaped_ties (g : List T3) : SeqAt.shaped (.list (g.map dTie)) = true := by
  unfold SeqAt.shaped
  rw [Bool.and_eq_true, decide_eq_true_eq]
  refine ⟨lay_ties g, ?_⟩
  have := depth_ties g
  rw [PyData.depth]
  omega
theorem eqv_tie (a b : T3) : PyData.eqv (dTie a) (dTie b) = decide (a = b) := by
  obtain ⟨a1, a2, a3⟩ := a
  obtain ⟨b1, b2, b3⟩ := b
  show PyData.eqv (.tuple [.int a1, .int a2, .int a3]) (.tuple [.int b1, .int b2, .int b3]) = _
  simp only [PyData.eqv, PyData.eqvAll]
  rw [Bool.eq_iff_iff]
  simp
theorem gIn_ties {n : Bool} {t : T3} {g : List T3} {w : W} {S : Store} (h : seqL S w = some (g.map tieW)) : gIn n (tieW t) w S = .ok (.bl (xorB n (decide (t ∈ g)))) S := by
  have hn : tupL w = none := by cases w <;> first | rfl | (simp [seqL] at h)
  have any : (g.map dTie).any (fun z => PyData.eqv z (dTie t)) = decide (t ∈ g) := by
    rw [Bool.eq_iff_iff, List.any_eq_true, decide_eq_true_eq]
    constructor
    · rintro ⟨z, hz, e⟩
      obtain ⟨u, hu, rfl⟩ := List.mem_map.mp hz
      rw [eqv_tie, decide_eq_true_eq] at e
      rw [← e]; exact hu
    · intro m
      exact ⟨dTie t, List.mem_map.mpr ⟨t, m, rfl⟩, by rw [eqv_tie]; simp⟩
  have key : ∀ w : W, tupL w = none → seqL S w = some (g.map tieW) → (match (tupL w).or (seqL S w) with
    | some ws => if flatW (tieW t) = true ∧ ws.all flatW = true then Res.ok (W.bl (xorB n (inW (tieW t) ws))) S else match toD (tieW t), toDs ws with
      | some d, some ds => if (tupL w).isNone = true ∧ SeqAt.shaped d = true ∧ SeqAt.shaped (.list ds) = true then .ok (W.bl (xorB n (ds.any fun z => PyData.eqv z d))) S else .bad
      | _, _ => .bad
    | none => .bad) = .ok (.bl (xorB n (decide (t ∈ g)))) S := by
    intro w h1 h2
    rw [h1, h2]
    simp only [Option.none_or, toD_tie, toDs_ties, shaped_tie, shaped_ties, any]
    rw [if_neg (by simp [flatW, tieW])]
    simp
  rw [← key w hn h]
  cases w <;> rfl
theorem intsW_tie (t : T3) : intsW [.int t.1, .int t.2.1, .int t.2.2] = some (tieL t) := rfl
theorem tupsW_ties : ∀ g : List T3, tupsW (g.map tieW) = some (g.map tieL)
  | [] => rfl
  | t :: r => by
    rw [List.map_cons, tupsW, tupsW_ties r]
    rfl
theorem shape_ties {g : List T3} (h : ∀ t, t ∈ g → 0 ≤ t.1 ∧ 0 ≤ t.2.1 ∧ 0 ≤ t.2.2) : shapeT (g.map tieL) = true := by
  cases g with
  | nil => rfl
  | cons t r =>
    simp only [List.map_cons, shapeT, Bool.and_eq_true, decide_eq_true_eq, List.all_eq_true]
    refine ⟨by simp [tieL], fun k hk => ?_⟩
    have hk : k ∈ (t :: r).map tieL := hk
    obtain ⟨u, hu, rfl⟩ := List.mem_map.mp hk
    have := h u hu
    refine ⟨rfl, fun i hi => ?_⟩
    simp only [tieL, List.mem_cons, List.not_mem_nil, or_false] at hi
    rcases hi with rfl | rfl | rfl <;> omega
theorem sorted_ties {g : List T3} {w : W} {S : Store} (hw : seqL S w = some (g.map tieW)) (hn : g.length < 64) (h : ∀ t, t ∈ g → 0 ≤ t.1 ∧ 0 ≤ t.2.1 ∧ 0 ≤ t.2.2) : gSorted w S = .ok (.lst ((srt lexL (g.map tieL)).map fun k => .tup (k.map W.int))) S := by
  unfold gSorted
  simp only [hw]
  cases g with
  | nil => rfl
  | cons t r =>
    have : intsW ((t :: r).map tieW) = none := rfl
    simp only [this, tupsW_ties]
    rw [if_pos ⟨by simpa using hn, shape_ties h⟩]
theorem toDs_self {S : Store} {ks : List (List Int)} : gEq true (.lst (ks.map fun k => .tup (k.map W.int))) (.lst (ks.map fun k => .tup (k.map W.int))) S = .ok (.bl false) S := by
  have i1 : ∀ k : List Int, toDs (k.map W.int) = some (k.map PyData.int) := fun k => by
    induction k with
    | nil => rfl
    | cons x r ih => rw [List.map_cons, toDs, ih]; rfl
  have e1 : toDs (ks.map fun k => .tup (k.map W.int)) = some (ks.map fun k => .tuple (k.map .int)) := by
    induction ks with
    | nil => rfl
    | cons x r ih => rw [List.map_cons, toDs, ih, toD, i1]; rfl
  have l1 : ∀ k : List Int, PyData.canLayAll0 (k.map PyData.int) = true := fun k => by
    induction k with
    | nil => rfl
    | cons x r ih => rw [List.map_cons, PyData.canLayAll0, ih]; rfl
  have l2 : PyData.canLayAll0 (ks.map fun k => .tuple (k.map .int)) = true := by
    clear e1
    induction ks with
    | nil => rfl
    | cons x r ih => rw [List.map_cons, PyData.canLayAll0, ih, PyData.canLay0, l1]; rfl
  have d1 : ∀ k : List Int, PyData.depthAll (k.map PyData.int) ≤ 1 := fun k => by
    induction k with
    | nil => simp [PyData.depthAll]
    | cons x r ih => rw [List.map_cons, PyData.depthAll]; simp [PyData.depth]; omega
  have d2 : PyData.depthAll (ks.map fun k => .tuple (k.map .int)) ≤ 2 := by
    clear e1 l2
    induction ks with
    | nil => simp [PyData.depthAll]
    | cons x r ih =>
      have := d1 x
      rw [List.map_cons, PyData.depthAll, PyData.depth]; omega
  have sh : SeqAt.shaped (.list (ks.map fun k => .tuple (k.map .int))) = true := by
    unfold SeqAt.shaped
    rw [Bool.and_eq_true, decide_eq_true_eq, PyData.depth]
    exact ⟨l2, by omega⟩
  have e2 : toDT S (.lst (ks.map fun k => .tup (k.map W.int))) = some (.list (ks.map fun k => .tuple (k.map .int))) := by
    show toD (.lst _) = _
    rw [toD, e1]
    rfl
  show (match toDT S _, toDT S _ with
    | some d, some e => if SeqAt.shaped d = true ∧ SeqAt.shaped e = true then Res.ok (W.bl (xorB true (PyData.eqv d e))) S else .bad
    | _, _ => .bad) = _
  rw [e2]
  simp only [sh, and_self, if_true, xorB_t]
  rw [PySem.SeqAt.eqv_refl (.list _) (show PyData.canLay0 (.list _) = true from l2)]
  rfl

/-! ### the law -/
theorem perm_map_inv {α β : Type} {f : α → β} : ∀ {xs : List β} {ps : List α}, xs.Perm (ps.map f) → ∃ qs : List α, xs = qs.map f ∧ qs.Perm ps := by
  intro xs ps p
  generalize hz : ps.map f = zs at p
  induction p generalizing ps with
  | nil => exact ⟨ps, by rw [hz], List.Perm.refl _⟩
  | cons x p ih =>
    cases ps with
    | nil => simp at hz
    | cons q r =>
      rw [List.map_cons, List.cons.injEq] at hz
      obtain ⟨qs, e, pp⟩ := ih hz.2
      exact ⟨q :: qs, by rw [List.map_cons, hz.1, e], pp.cons q⟩
  | swap x y l =>
    match ps, hz with
    | a :: b :: r, hz =>
      simp only [List.map_cons, List.cons.injEq] at hz
      exact ⟨b :: a :: r, by simp only [List.map_cons]; rw [hz.1, hz.2.1, hz.2.2], List.Perm.swap a b r⟩
  | trans p1 p2 ih1 ih2 =>
    obtain ⟨qs, e, pp⟩ := ih2 hz
    obtain ⟨qs', e', pp'⟩ := ih1 e.symm
    exact ⟨qs', e', pp'.trans pp⟩
theorem mem8 {x : Int} : x ∈ labels8 ↔ 0 ≤ x ∧ x < 8 := by
  simp only [labels8, List.mem_cons, List.not_mem_nil, or_false]
  omega
structure Fine (ts : List T3) : Prop where
  inl : ∀ t, t ∈ ts → inL t
  nn : ∀ t, t ∈ ts → 0 ≤ t.1 ∧ 0 ≤ t.2.1 ∧ 0 ≤ t.2.2
theorem Fine.perm {ts gs : List T3} (h : Fine ts) (p : gs.Perm ts) : Fine gs := ⟨fun t m => h.inl t (p.mem_iff.mp m), fun t m => h.nn t (p.mem_iff.mp m)⟩
theorem Fine.snoc {ts : List T3} {a b c : Int} (h : Fine ts) (h0 : 0 ≤ a) (h1 : 0 ≤ b) (h2 : b < 8) (h3 : 0 ≤ c) (h4 : c < 8) : Fine (ts ++ [(a, b, c)]) := by
  refine ⟨fun t m => ?_, fun t m => ?_⟩
  · rcases List.mem_append.mp m with m | m
    · exact h.inl t m
    · rw [List.mem_singleton.mp m]; exact ⟨mem8.mpr ⟨h1, h2⟩, mem8.mpr ⟨h3, h4⟩⟩
  · rcases List.mem_append.mp m with m | m
    · exact h.nn t m
    · rw [List.mem_singleton.mp m]; exact ⟨h0, h1, h3⟩
end LT
end

section
set_option maxRecDepth 100000
set_option maxHeartbeats 4000000
namespace Dk11
open PySem PySem.Spec L2 RL LC LT
open PyProof.Rows hiding St
def topS (i : Nat) : Stmt := PySem.Challenge.pw_unseenmap_k11_kinds_recognized.main.body.getD i (.Pass ⟨0, 0, 0, 0⟩)
def c_MOST_TIES : W := .int 12
abbrev s_is_number : Stmt := topS 2
def sh_is_number : SS := (mRet (mAndV (mAp (gIsi ktB) (mCons (mVar 0) (mCons (mC (.ty "int")) mNil))) (mAndV (mNotV (mAp (gIsi ktB) (mCons (mVar 0) (mCons (mC (.ty "bool")) mNil)))) (mChain gLe gLe (mVar 1) (mVar 0) (mVar 2)))))
def G_is_number : Fn := runB 3 sh_is_number
abbrev s_is_label : Stmt := topS 3
def sh_is_label : SS := (mRet (mAp G_is_number (mCons (mVar 0) (mCons (mC (.int 0)) (mCons (mBin gIx (mAp gLst (mCons (mC (.int 0)) (mCons (mC (.int 1)) (mCons (mC (.int 3)) (mCons (mC (.int 7)) mNil))))) (mVar 1)) mNil)))))
def G_is_label : Fn := runB 2 sh_is_label
abbrev s_is_tie : Stmt := topS 4
def sh_is_tie : SS := (mSeq (mIf (mOrT (mNotT (mTru (mAp (gIsi ktB) (mCons (mVar 0) (mCons (mC (.ty "tuple")) mNil))))) (mOrT (mBT (gEq true) (mAp (g1 gLen) (mCons (mVar 0) mNil)) (mC (.int 3))) (mNotT (mTru (mAp (g1 gAll) (mCons (mLc (mItems (mVar 0)) [2] (gNm 2) mYes (mAp G_is_label (mCons (mVar 2) (mCons (mVar 1) mNil)))) mNil)))))) (mRet (mC (.bl false))) mSkip)
  (mRet (mBin gLe (mBin gIx (mVar 0) (mC (.int 1))) (mBin gIx (mVar 0) (mC (.int 2))))))
def G_is_tie : Fn := runB 3 sh_is_tie
abbrev s_reached : Stmt := topS 7
abbrev s_hang_together : Stmt := topS 8
abbrev s_are_ties : Stmt := topS 6
def sh_are_ties : SS := (mSeq (mIf (mOrT (mNotT (mTru (mAp (gIsi ktB) (mCons (mVar 0) (mCons (mC (.ty "tuple")) mNil))))) (mNotT (mChT gLe gLe (mC (.int 1)) (mAp (g1 gLen) (mCons (mVar 0) mNil)) (mC c_MOST_TIES)))) (mRet (mC (.bl false))) mSkip)
  (mSeq (mIf (mNotT (mTru (mAp (g1 gAll) (mCons (mLc (mItems (mVar 0)) [2] (gNm 2) mYes (mAp G_is_tie (mCons (mVar 2) (mCons (mVar 1) mNil)))) mNil)))) (mRet (mC (.bl false))) mSkip)
  (mRet (mAndV (mBin (gEq false) (mAp (g1 gListOf) (mCons (mVar 0) mNil)) (mUn gSrtSet (mAp (g1 gListOf) (mCons (mVar 0) mNil)))) (mAp G_hang_together (mCons (mVar 0) mNil))))))
def G_are_ties : Fn := runB 3 sh_are_ties
abbrev s_is_kind : Stmt := topS 5
def sh_is_kind : SS := (mSeq (mIf (mOrT (mNotT (mTru (mAp (gIsi ktB) (mCons (mVar 0) (mCons (mC (.ty "tuple")) mNil))))) (mOrT (mBT (gEq false) (mAp (g1 gLen) (mCons (mVar 0) mNil)) (mC (.int 0))) (mNotT (mTru (mAp (gIsi ktB) (mCons (mBin gIx (mVar 0) (mC (.int 0))) (mCons (mC (.ty "str")) mNil))))))) (mRet (mC (.bl false))) mSkip)
  (mSeq (mIf (mBT (gEq false) (mBin gIx (mVar 0) (mC (.int 0))) (mC (.str "face"))) (mRet (mAndV (mBin (gEq false) (mAp (g1 gLen) (mCons (mVar 0) mNil)) (mC (.int 2))) (mAp G_is_label (mCons (mBin gIx (mVar 0) (mC (.int 1))) (mCons (mVar 1) mNil))))) mSkip)
  (mSeq (mIf (mBT (gEq false) (mBin gIx (mVar 0) (mC (.int 0))) (mC (.str "border"))) (mRet (mAndV (mBin (gEq false) (mAp (g1 gLen) (mCons (mVar 0) mNil)) (mC (.int 4))) (mAp G_is_tie (mCons (mSl (mVar 0) (mPart (mC (.int 1))) mNoPart) (mCons (mVar 1) mNil))))) mSkip)
  (mSeq (mIf (mBT (gEq false) (mBin gIx (mVar 0) (mC (.int 0))) (mC (.str "dot"))) (mRet (mAndV (mBin (gEq false) (mAp (g1 gLen) (mCons (mVar 0) mNil)) (mC (.int 3))) (mAndV (mAp G_is_label (mCons (mBin gIx (mVar 0) (mC (.int 1))) (mCons (mVar 1) mNil))) (mAp G_is_label (mCons (mBin gIx (mVar 0) (mC (.int 2))) (mCons (mVar 1) mNil)))))) mSkip)
  (mRet (mAndV (mBin (gEq false) (mBin gIx (mVar 0) (mC (.int 0))) (mC (.str "point"))) (mAndV (mBin (gEq false) (mAp (g1 gLen) (mCons (mVar 0) mNil)) (mC (.int 3))) (mAndV (mAp G_is_label (mCons (mBin gIx (mVar 0) (mC (.int 1))) (mCons (mVar 1) mNil))) (mAp G_are_ties (mCons (mBin gIx (mVar 0) (mC (.int 2))) (mCons (mVar 1) mNil)))))))))))
def G_is_kind : Fn := runB 2 sh_is_kind
abbrev s__law_cells : Stmt := topS 10
abbrev s__law_draw : Stmt := topS 11
abbrev s__law_one : Stmt := topS 12
abbrev s__law_same : Stmt := topS 13
abbrev s__law_top : Stmt := topS 14
def sh__law_top : SS := (mRet (mBin gIx (mAp gLst (mCons (mC (.int 1)) (mCons (mC (.int 2)) (mCons (mC (.int 4)) (mCons (mC (.int 8)) mNil))))) (mVar 0)))
def G__law_top : Fn := runB 1 sh__law_top
abbrev s__law_tied : Stmt := topS 15
def sh__law_tied : SS := (mSeq (mIf (mOrT (mNotT (mTru (mAp (gIsi ktB) (mCons (mVar 0) (mCons (mC (.ty "tuple")) mNil))))) (mBT (gEq true) (mAp (g1 gLen) (mCons (mVar 0) mNil)) (mC (.int 3)))) (mRet (mC (.bl false))) mSkip)
  (mSeq (mIf (mNotT (mTru (mAp (g1 gAll) (mCons (mLc (mItems (mVar 0)) [2] (gNm 2) mYes (mAndV (mAp (gIsi ktB) (mCons (mVar 2) (mCons (mC (.ty "int")) mNil))) (mAndV (mNotV (mAp (gIsi ktB) (mCons (mVar 2) (mCons (mC (.ty "bool")) mNil)))) (mChain gLe gLt (mC (.int 0)) (mVar 2) (mAp G__law_top (mCons (mVar 1) mNil)))))) mNil)))) (mRet (mC (.bl false))) mSkip)
  (mRet (mBin gLe (mBin gIx (mVar 0) (mC (.int 1))) (mBin gIx (mVar 0) (mC (.int 2)))))))
def G__law_tied : Fn := runB 3 sh__law_tied
abbrev s__law_joined : Stmt := topS 16
def sh__law_joined : SS := (mSeq (mAsg (mAp (g1 gListOf) (mCons (mSl (mBin gIx (mVar 0) (mC (.int 0))) (mPart (mC (.int 1))) mNoPart) mNil)) (gNm 1))
  (mSeq (mFor (mRange1 (mCons (mAp (g1 gLen) (mCons (mVar 0) mNil)) mNil)) (gNm 2) (mFor (mItems (mVar 0)) (gTp 3 (gCons (gNm 3) (gCons (gNm 4) (gCons (gNm 5) gNil)))) (mAsg (mIfE (mOrT (mBT (gIn false) (mVar 4) (mVar 1)) (mBT (gIn false) (mVar 5) (mVar 1))) (mBin gAdd (mVar 1) (mAp gLst (mCons (mVar 4) (mCons (mVar 5) mNil)))) (mVar 1)) (gNm 1))))
  (mRet (mAp (g1 gAll) (mCons (mLc (mItems (mVar 0)) [6] (gNm 6) mYes (mBin (gIn false) (mBin gIx (mVar 6) (mC (.int 1))) (mVar 1))) mNil)))))
def G__law_joined : Fn := runB 7 sh__law_joined
abbrev s__law_kindly : Stmt := topS 17
def sh__law_kindly : SS := (mSeq (mIf (mOrT (mNotT (mTru (mAp (gIsi ktB) (mCons (mVar 0) (mCons (mC (.ty "tuple")) mNil))))) (mOrT (mBT gLt (mAp (g1 gLen) (mCons (mVar 0) mNil)) (mC (.int 2))) (mBT (gIn true) (mBin gIx (mVar 0) (mC (.int 0))) (mAp gLst (mCons (mC (.str "face")) (mCons (mC (.str "border")) (mCons (mC (.str "dot")) (mCons (mC (.str "point")) mNil)))))))) (mRet (mC (.bl false))) mSkip)
  (mSeq (mIf (mBT (gEq false) (mBin gIx (mVar 0) (mC (.int 0))) (mC (.str "border"))) (mRet (mAndV (mBin (gEq false) (mAp (g1 gLen) (mCons (mVar 0) mNil)) (mC (.int 4))) (mAp G__law_tied (mCons (mSl (mVar 0) (mPart (mC (.int 1))) mNoPart) (mCons (mVar 1) mNil))))) mSkip)
  (mSeq (mIf (mBT (gEq false) (mBin gIx (mVar 0) (mC (.int 0))) (mC (.str "point"))) (mSeq (mAsg (mAndV (mBin (gEq false) (mAp (g1 gLen) (mCons (mVar 0) mNil)) (mC (.int 3))) (mAndV (mAp G__law_tied (mCons (mAp gTup (mCons (mBin gIx (mVar 0) (mC (.int 1))) (mCons (mC (.int 0)) (mCons (mC (.int 0)) mNil)))) (mCons (mVar 1) mNil))) (mAndV (mAp (gIsi ktB) (mCons (mBin gIx (mVar 0) (mC (.int 2))) (mCons (mC (.ty "tuple")) mNil))) (mChain gLe gLe (mC (.int 1)) (mAp (g1 gLen) (mCons (mBin gIx (mVar 0) (mC (.int 2))) mNil)) (mC (.int 12)))))) (gNm 2))
  (mRet (mAndV (mVar 2) (mAndV (mAp (g1 gAll) (mCons (mLc (mItems (mBin gIx (mVar 0) (mC (.int 2)))) [4] (gNm 4) mYes (mAp G__law_tied (mCons (mVar 4) (mCons (mVar 1) mNil)))) mNil)) (mAndV (mBin (gEq false) (mAp (g1 gListOf) (mCons (mBin gIx (mVar 0) (mC (.int 2))) mNil)) (mUn gSrtSetT (mBin gIx (mVar 0) (mC (.int 2))))) (mAp G__law_joined (mCons (mBin gIx (mVar 0) (mC (.int 2))) mNil))))))) mSkip)
  (mRet (mAndV (mBin (gEq false) (mAp (g1 gLen) (mCons (mVar 0) mNil)) (mIfE (mBT (gEq false) (mBin gIx (mVar 0) (mC (.int 0))) (mC (.str "face"))) (mC (.int 2)) (mC (.int 3)))) (mAp (g1 gAll) (mCons (mLc (mItems (mSl (mVar 0) (mPart (mC (.int 1))) mNoPart)) [3] (gNm 3) mYes (mAp G__law_tied (mCons (mAp gTup (mCons (mVar 3) (mCons (mC (.int 0)) (mCons (mC (.int 0)) mNil)))) (mCons (mVar 1) mNil)))) mNil)))))))
def G__law_kindly : Fn := runB 5 sh__law_kindly
abbrev s_law : Stmt := topS 18
def sh_law : SS := (mSeq (mAsg (mAp G__law_cells (mCons (mVar 0) mNil)) (gNm 1))
  (mSeq (mFor (mRange1 (mCons (mC (.int 12)) mNil)) (gNm 2) (mSeq (mAsg (mAp G__law_draw (mCons (mVar 1) (mCons (mC (.int 4)) mNil))) (gNm 4))
  (mSeq (mAsg (mAp G__law_top (mCons (mVar 4) mNil)) (gNm 5))
  (mSeq (mAsg (mLc (mRange1 (mCons (mBin gAdd (mC (.int 1)) (mAp G__law_draw (mCons (mVar 1) (mCons (mC (.int 4)) mNil)))) mNil)) [10] (gNm 10) mYes (mAp (g1 gSorted) (mCons (mAp gLst (mCons (mAp G__law_draw (mCons (mVar 1) (mCons (mVar 5) mNil))) (mCons (mAp G__law_draw (mCons (mVar 1) (mCons (mVar 5) mNil))) mNil))) mNil))) (gNm 6))
  (mSeq (mAsg (mLc (mItems (mVar 6)) [11, 12] (gLs 2 (gCons (gNm 11) (gCons (gNm 12) gNil))) mYes (mAp gTup (mCons (mAp G__law_draw (mCons (mVar 1) (mCons (mVar 5) mNil))) (mCons (mVar 11) (mCons (mVar 12) mNil))))) (gNm 7))
  (mSeq (mAsg (mAp G__law_one (mCons (mVar 1) (mCons (mAp gLst (mCons (mAp (g1 gTupOf) (mCons (mUn gSrtSet (mVar 7)) mNil)) (mCons (mAp (g1 gTupOf) (mCons (mUn gSrtSet (mVar 7)) mNil)) (mCons (mAp (g1 gTupOf) (mCons (mVar 7) mNil)) (mCons (mVar 7) (mCons (mBin gAdd (mAp (g1 gTupOf) (mCons (mVar 7) mNil)) (mAp gTup (mCons (mC .non) mNil))) (mCons (mAp gTup mNil) mNil))))))) mNil))) (gNm 7))
  (mSeq (mAsg (mAp G__law_one (mCons (mVar 1) (mCons (mAp gLst (mCons (mAp G__law_draw (mCons (mVar 1) (mCons (mVar 5) mNil))) (mCons (mAp G__law_draw (mCons (mVar 1) (mCons (mVar 5) mNil))) (mCons (mVar 5) (mCons (mBin gSub (mC (.int 0)) (mC (.int 1))) (mCons (mC .non) (mCons (mC (.bl true)) (mCons (mC (.str "0")) mNil)))))))) mNil))) (gNm 8))
  (mSeq (mAsg (mAp G__law_one (mCons (mVar 1) (mCons (mAp gLst (mCons (mAp gTup (mCons (mC (.str "face")) (mCons (mVar 8) mNil))) (mCons (mAp gTup (mCons (mC (.str "border")) (mCons (mVar 8) (mCons (mC (.int 0)) (mCons (mAp G__law_draw (mCons (mVar 1) (mCons (mVar 5) mNil))) mNil))))) (mCons (mAp gTup (mCons (mC (.str "border")) (mCons (mC (.int 0)) (mCons (mC (.int 1)) (mCons (mC (.int 0)) mNil))))) (mCons (mAp gTup (mCons (mC (.str "dot")) (mCons (mVar 8) (mCons (mAp G__law_draw (mCons (mVar 1) (mCons (mBin gAdd (mVar 5) (mC (.int 1))) mNil))) mNil)))) (mCons (mAp gTup (mCons (mC (.str "point")) (mCons (mVar 8) (mCons (mVar 7) mNil)))) (mCons (mAp gTup (mCons (mC (.str "point")) (mCons (mC (.int 0)) (mCons (mVar 7) mNil)))) (mCons (mAp gTup (mCons (mC (.str "face")) (mCons (mVar 8) (mCons (mC (.int 0)) mNil)))) (mCons (mAp gTup (mCons (mC (.str "point")) (mCons (mVar 8) mNil))) (mCons (mAp gLst (mCons (mC (.str "face")) (mCons (mC (.int 0)) mNil))) (mCons (mC .non) (mCons (mC (.str "face")) (mCons (mAp gTup mNil) (mCons (mAp gTup (mCons (mC (.str "Face")) (mCons (mC (.int 0)) mNil))) (mCons (mAp gTup (mCons (mC (.int 0)) (mCons (mC (.int 0)) mNil))) (mCons (mAp gTup (mCons (mC (.str "dot")) (mCons (mC (.int 0)) mNil))) mNil)))))))))))))))) mNil))) (gNm 9))
  (mIf (mNotT (mTru (mAp (G__law_same 10) (mCons (mAp gLst (mCons (mAp G_is_kind (mCons (mVar 9) (mCons (mVar 4) mNil))) (mCons (mCallK [1, 0] G_is_kind mNil (mCons (mVar 4) (mCons (mVar 9) mNil))) mNil))) (mCons (mBin gMul (mAp gLst (mCons (mAp G__law_kindly (mCons (mVar 9) (mCons (mVar 4) mNil))) mNil)) (mC (.int 2))) mNil))))) (mRet (mC (.bl false))) mSkip)))))))))
  (mSeq (mAsg (mAp (g1 gTupOf) (mCons (mAp (g1 gSorted) (mCons (mBin gAdd (mBin gAdd (mLc (mRange1 (mCons (mC (.int 4)) mNil)) [10] (gNm 10) mYes (mAp gTup (mCons (mVar 10) (mCons (mC (.int 0)) (mCons (mC (.int 3)) mNil))))) (mLc (mRange1 (mCons (mC (.int 4)) mNil)) [10] (gNm 10) mYes (mAp gTup (mCons (mVar 10) (mCons (mC (.int 1)) (mCons (mC (.int 3)) mNil)))))) (mLc (mRange1 (mCons (mC (.int 4)) mNil)) [10] (gNm 10) mYes (mAp gTup (mCons (mVar 10) (mCons (mC (.int 2)) (mCons (mC (.int 3)) mNil)))))) mNil)) mNil)) (gNm 3))
  (mRet (mAp (G__law_same 10) (mCons (mAp gLst (mCons (mAp (g1 gLen) (mCons (mVar 3) mNil)) (mCons (mAp G_is_kind (mCons (mAp gTup (mCons (mC (.str "point")) (mCons (mC (.int 0)) (mCons (mVar 3) mNil)))) (mCons (mC (.int 2)) mNil))) (mCons (mAp G_is_kind (mCons (mAp gTup (mCons (mC (.str "point")) (mCons (mC (.int 0)) (mCons (mBin gAdd (mAp gTup (mCons (mAp gTup (mCons (mC (.int 0)) (mCons (mC (.int 0)) (mCons (mC (.int 0)) mNil)))) mNil)) (mVar 3)) mNil)))) (mCons (mC (.int 2)) mNil))) (mCons (mAp G_is_kind (mCons (mAp gTup (mCons (mC (.str "face")) (mCons (mC (.int 0)) mNil))) (mCons (mC (.int 0)) mNil))) mNil))))) (mCons (mAp gLst (mCons (mC (.int 12)) (mCons (mC (.bl true)) (mCons (mC (.bl false)) (mCons (mC (.bl true)) mNil))))) mNil)))))))
def G_law : Fn := runB 13 sh_law
structure Txt (K : PySem.W.Frag) (mg : Str → Option Value) : Prop where
  z_all : mg "all" = none
  z_bool : mg "bool" = none
  z_int : mg "int" = none
  z_isinstance : mg "isinstance" = none
  z_len : mg "len" = none
  z_list : mg "list" = none
  z_range : mg "range" = none
  z_set : mg "set" = none
  z_sorted : mg "sorted" = none
  z_str : mg "str" = none
  z_tuple : mg "tuple" = none
  z_zip : mg "zip" = none
  c_MOST_TIES : KCon K mg "MOST_TIES" c_MOST_TIES
  f_is_number : FTx K mg "is_number" s_is_number ["value", "low", "high"]
  f_is_label : FTx K mg "is_label" s_is_label ["value", "many"]
  f_is_tie : FTx K mg "is_tie" s_is_tie ["value", "many"]
  f_reached : FTx K mg "reached" s_reached ["ties", "start"]
  f_hang_together : FTx K mg "hang_together" s_hang_together ["ties"]
  f_are_ties : FTx K mg "are_ties" s_are_ties ["value", "many"]
  f_is_kind : FTx K mg "is_kind" s_is_kind ["value", "many"]
  f__law_cells : FTx K mg "_law_cells" s__law_cells ["_law_script"]
  f__law_draw : FTx K mg "_law_draw" s__law_draw ["_law_bag", "_law_sides"]
  f__law_one : FTx K mg "_law_one" s__law_one ["_law_bag", "_law_things"]
  f__law_same : FTx K mg "_law_same" s__law_same ["_law_found", "_law_due"]
  f__law_top : FTx K mg "_law_top" s__law_top ["_law_many_z"]
  f__law_tied : FTx K mg "_law_tied" s__law_tied ["_law_tie", "_law_many_z"]
  f__law_joined : FTx K mg "_law_joined" s__law_joined ["_law_ties"]
  f__law_kindly : FTx K mg "_law_kindly" s__law_kindly ["_law_kind", "_law_many_z"]
  f_law : FTx K mg "law" s_law ["_law_script"]
section
variable {P : Program} {w : World} {K : PySem.W.Frag} {mg : Str → Option Value} {base : Heap}
theorem sc_is_number : FnScope ["value", "low", "high"] ["value", "low", "high"] (defScope s_is_number) := ⟨rfl, rfl, rfl, by decide +kernel, rfl, by decide +kernel, by decide +kernel⟩
theorem ok_is_number (T : Txt K mg) : FnE P w K mg base 1 "is_number" s_is_number ["value", "low", "high"] G_is_number := fn_e T.f_is_number sc_is_number fun f cdv A outer s H E hr tk => by
    exact (psm_one (psm_ret (pm_and (pm_callB (cm_isi ktB_ok) T.z_isinstance (pam_cons (pm_var 0) (pam_cons (pm_ty (n := "int") T.z_int) pam_nil))) (pm_and (pm_not (pm_callB (cm_isi ktB_ok) T.z_isinstance (pam_cons (pm_var 0) (pam_cons (pm_ty (n := "bool") T.z_bool) pam_nil)))) (pm_one (pm_chain om_le om_le (pm_var 1) (pm_var 0) (pm_var 2)))))))
theorem sc_is_label : FnScope ["value", "many"] ["value", "many"] (defScope s_is_label) := ⟨rfl, rfl, rfl, by decide +kernel, rfl, by decide +kernel, by decide +kernel⟩
theorem ok_is_label (T : Txt K mg) (h_is_number : FnE P w K mg base 1 "is_number" s_is_number ["value", "low", "high"] G_is_number) : FnE P w K mg base 2 "is_label" s_is_label ["value", "many"] G_is_label := fn_e T.f_is_label sc_is_label fun f cdv A outer s H E hr tk => by
    exact (psm_one (psm_ret (pm_callE h_is_number hr (by decide) tk (pam_cons (pm_var 0) (pam_cons pm_int (pam_cons (pm_ix (pm_lst (pam_cons pm_int (pam_cons pm_int (pam_cons pm_int (pam_cons pm_int pam_nil))))) (pm_var 1)) pam_nil))))))
theorem sc_is_tie : FnScope ["value", "many", "one"] ["value", "many"] (defScope s_is_tie) := ⟨rfl, rfl, rfl, by decide +kernel, rfl, by decide +kernel, by decide +kernel⟩
theorem ok_is_tie (T : Txt K mg) (h_is_label : FnE P w K mg base 2 "is_label" s_is_label ["value", "many"] G_is_label) : FnE P w K mg base 3 "is_tie" s_is_tie ["value", "many"] G_is_tie := fn_e T.f_is_tie sc_is_tie fun f cdv A outer s H E hr tk => by
    exact (psm_cons (psm_if (PWM.pt (pwm_or (ptm_not (ptm_tru (pm_callB (cm_isi ktB_ok) T.z_isinstance (pam_cons (pm_var 0) (pam_cons (pm_ty (n := "tuple") T.z_tuple) pam_nil))))) (pwm_or (ptm_cmp (om_ne (hu64 hr)) (pm_callB cm_len T.z_len (pam_cons (pm_var 0) pam_nil)) pm_int) (pwm_or1 (ptm_not (ptm_tru (pm_callB (cm_all rfl) T.z_all (pam_cons (pm_lc (own := [("one", 2)]) rfl sc_is_tie.nd (pim_any (pm_var 0)) (show blkC ["value", "many", "one"] (defScope s_is_tie) _ [("one", 2)] = true by decide +kernel) ⟨fun _ _ _ _ _ => (pgm_name 2 sc_is_tie.nd), fun _ _ _ _ _ => ptsm_nil, fun _ _ _ _ _ => (pm_callE h_is_label hr (by decide) takesE0 (pam_cons (pm_var 2) (pam_cons (pm_var 1) pam_nil)))⟩) pam_nil)))))))) (psm_one (psm_ret pm_bl)) psm_nil)
      (psm_one (psm_ret (pm_cmp om_le (pm_ix (pm_var 0) pm_int) (pm_ix (pm_var 0) pm_int)))))
theorem sc_reached : FnScope ["ties", "start", "found", "turn", "label", "low", "high", "one"] ["ties", "start"] (defScope s_reached) := ⟨rfl, rfl, rfl, by decide +kernel, rfl, by decide +kernel, by decide +kernel⟩
theorem ok_reached (T : Txt K mg) : FnE P w K mg base 1 "reached" s_reached ["ties", "start"] G_reached := fn_e T.f_reached sc_reached fun f cdv A outer s H E hr tk => by
    exact (psm_cons (psm_set 2 (pm_lst (pam_cons (pm_var 1) pam_nil)) sc_reached.nd)
      (psm_cons (psm_for (vs := [3]) (passes_of rfl) rfl (pim_range1 T.z_range (pam_cons pm_int pam_nil)) (pgm_name 3 sc_reached.nd) (psm_one (psm_for (vs := [4, 5, 6]) (passes_of rfl) rfl (pim_any (pm_var 0)) (pgm_tup (n := 3) rfl (pgm_cons (pgm_name 4 sc_reached.nd) (pgm_cons (pgm_name 5 sc_reached.nd) (pgm_cons (pgm_name 6 sc_reached.nd) pgm_nil)))) (psm_one (psm_if (PWM.pt (pwm_or (ptm_cmp (om_in (hu65 hr)) (pm_var 5) (pm_var 2)) (pwm_or1 (ptm_cmp (om_in (hu65 hr)) (pm_var 6) (pm_var 2))))) (psm_one (psm_set 2 (pm_bin om_add (pm_var 2) (pm_lc (own := [("one", 7)]) rfl sc_reached.nd (pim_any (pm_tup (pam_cons (pm_var 5) (pam_cons (pm_var 6) pam_nil)))) (show blkC ["ties", "start", "found", "turn", "label", "low", "high", "one"] (defScope s_reached) _ [("one", 7)] = true by decide +kernel) ⟨fun _ _ _ _ _ => (pgm_name 7 sc_reached.nd), fun _ _ _ _ _ => (ptsm_one (ptm_cmp (om_notIn (hu65 hr)) (pm_var 7) (pm_var 2))), fun _ _ _ _ _ => (pm_var 7)⟩)) sc_reached.nd)) psm_nil)))))
      (psm_one (psm_ret (pm_srtset rfl (hu64 hr) rfl T.z_sorted rfl T.z_set (pm_var 2))))))
theorem sc_hang_together : FnScope ["ties", "labels", "label", "low", "high"] ["ties"] (defScope s_hang_together) := ⟨rfl, rfl, rfl, by decide +kernel, rfl, by decide +kernel, by decide +kernel⟩
theorem ok_hang_together (T : Txt K mg) (h_reached : FnE P w K mg base 1 "reached" s_reached ["ties", "start"] G_reached) : FnE P w K mg base 2 "hang_together" s_hang_together ["ties"] G_hang_together := fn_e T.f_hang_together sc_hang_together fun f cdv A outer s H E hr tk => by
    exact (psm_cons (psm_if (ptm_cmp (om_eq (hu64 hr)) (pm_callB cm_len T.z_len (pam_cons (pm_var 0) pam_nil)) pm_int) (psm_one (psm_ret pm_bl)) psm_nil)
      (psm_cons (psm_set 1 (pm_callE h_reached hr (by decide) tk (pam_cons (pm_var 0) (pam_cons (pm_ix (pm_ix (pm_var 0) pm_int) pm_int) pam_nil))) sc_hang_together.nd)
      (psm_one (psm_ret (pm_callB (cm_all rfl) T.z_all (pam_cons (pm_lc (own := [("label", 2), ("low", 3), ("high", 4)]) rfl sc_hang_together.nd (pim_any (pm_var 0)) (show blkC ["ties", "labels", "label", "low", "high"] (defScope s_hang_together) _ [("label", 2), ("low", 3), ("high", 4)] = true by decide +kernel) ⟨fun _ _ _ _ _ => (pgm_tup (n := 3) rfl (pgm_cons (pgm_name 2 sc_hang_together.nd) (pgm_cons (pgm_name 3 sc_hang_together.nd) (pgm_cons (pgm_name 4 sc_hang_together.nd) pgm_nil)))), fun _ _ _ _ _ => ptsm_nil, fun _ _ _ _ _ => (pm_cmp (om_in (hu65 hr)) (pm_var 3) (pm_var 1))⟩) pam_nil))))))
theorem sc_are_ties : FnScope ["value", "many", "tie"] ["value", "many"] (defScope s_are_ties) := ⟨rfl, rfl, rfl, by decide +kernel, rfl, by decide +kernel, by decide +kernel⟩
theorem ok_are_ties (T : Txt K mg) (h_is_tie : FnE P w K mg base 3 "is_tie" s_is_tie ["value", "many"] G_is_tie) (h_hang_together : FnE P w K mg base 2 "hang_together" s_hang_together ["ties"] G_hang_together) : FnE P w K mg base 4 "are_ties" s_are_ties ["value", "many"] G_are_ties := fn_e T.f_are_ties sc_are_ties fun f cdv A outer s H E hr tk => by
    exact (psm_cons (psm_if (PWM.pt (pwm_or (ptm_not (ptm_tru (pm_callB (cm_isi ktB_ok) T.z_isinstance (pam_cons (pm_var 0) (pam_cons (pm_ty (n := "tuple") T.z_tuple) pam_nil))))) (pwm_or1 (ptm_not (ptm_chain om_le om_le pm_int (pm_callB cm_len T.z_len (pam_cons (pm_var 0) pam_nil)) (pm_glob T.c_MOST_TIES)))))) (psm_one (psm_ret pm_bl)) psm_nil)
      (psm_cons (psm_if (ptm_not (ptm_tru (pm_callB (cm_all rfl) T.z_all (pam_cons (pm_lc (own := [("tie", 2)]) rfl sc_are_ties.nd (pim_any (pm_var 0)) (show blkC ["value", "many", "tie"] (defScope s_are_ties) _ [("tie", 2)] = true by decide +kernel) ⟨fun _ _ _ _ _ => (pgm_name 2 sc_are_ties.nd), fun _ _ _ _ _ => ptsm_nil, fun _ _ _ _ _ => (pm_callE h_is_tie hr (by decide) takesE0 (pam_cons (pm_var 2) (pam_cons (pm_var 1) pam_nil)))⟩) pam_nil)))) (psm_one (psm_ret pm_bl)) psm_nil)
      (psm_one (psm_ret (pm_and (pm_cmp (om_eq (hu64 hr)) (pm_callTy cm_list T.z_list (pam_cons (pm_var 0) pam_nil)) (pm_srtset rfl (hu64 hr) rfl T.z_sorted rfl T.z_set (pm_callTy cm_list T.z_list (pam_cons (pm_var 0) pam_nil)))) (pm_one (pm_callE h_hang_together hr (by decide) tk (pam_cons (pm_var 0) pam_nil))))))))
theorem sc_is_kind : FnScope ["value", "many"] ["value", "many"] (defScope s_is_kind) := ⟨rfl, rfl, rfl, by decide +kernel, rfl, by decide +kernel, by decide +kernel⟩
theorem ok_is_kind (T : Txt K mg) (h_is_label : FnE P w K mg base 2 "is_label" s_is_label ["value", "many"] G_is_label) (h_is_tie : FnE P w K mg base 3 "is_tie" s_is_tie ["value", "many"] G_is_tie) (h_are_ties : FnE P w K mg base 4 "are_ties" s_are_ties ["value", "many"] G_are_ties) : FnE P w K mg base 5 "is_kind" s_is_kind ["value", "many"] G_is_kind := fn_e T.f_is_kind sc_is_kind fun f cdv A outer s H E hr tk => by
    exact (psm_cons (psm_if (PWM.pt (pwm_or (ptm_not (ptm_tru (pm_callB (cm_isi ktB_ok) T.z_isinstance (pam_cons (pm_var 0) (pam_cons (pm_ty (n := "tuple") T.z_tuple) pam_nil))))) (pwm_or (ptm_cmp (om_eq (hu64 hr)) (pm_callB cm_len T.z_len (pam_cons (pm_var 0) pam_nil)) pm_int) (pwm_or1 (ptm_not (ptm_tru (pm_callB (cm_isi ktB_ok) T.z_isinstance (pam_cons (pm_ix (pm_var 0) pm_int) (pam_cons (pm_ty (n := "str") T.z_str) pam_nil))))))))) (psm_one (psm_ret pm_bl)) psm_nil)
      (psm_cons (psm_if (ptm_cmp (om_eq (hu64 hr)) (pm_ix (pm_var 0) pm_int) pm_str) (psm_one (psm_ret (pm_and (pm_cmp (om_eq (hu64 hr)) (pm_callB cm_len T.z_len (pam_cons (pm_var 0) pam_nil)) pm_int) (pm_one (pm_callE h_is_label hr (by decide) tk (pam_cons (pm_ix (pm_var 0) pm_int) (pam_cons (pm_var 1) pam_nil))))))) psm_nil)
      (psm_cons (psm_if (ptm_cmp (om_eq (hu64 hr)) (pm_ix (pm_var 0) pm_int) pm_str) (psm_one (psm_ret (pm_and (pm_cmp (om_eq (hu64 hr)) (pm_callB cm_len T.z_len (pam_cons (pm_var 0) pam_nil)) pm_int) (pm_one (pm_callE h_is_tie hr (by decide) tk (pam_cons (pm_slice (pm_var 0) (pom_some pm_int) pom_none) (pam_cons (pm_var 1) pam_nil))))))) psm_nil)
      (psm_cons (psm_if (ptm_cmp (om_eq (hu64 hr)) (pm_ix (pm_var 0) pm_int) pm_str) (psm_one (psm_ret (pm_and (pm_cmp (om_eq (hu64 hr)) (pm_callB cm_len T.z_len (pam_cons (pm_var 0) pam_nil)) pm_int) (pm_and (pm_callE h_is_label hr (by decide) tk (pam_cons (pm_ix (pm_var 0) pm_int) (pam_cons (pm_var 1) pam_nil))) (pm_one (pm_callE h_is_label hr (by decide) tk (pam_cons (pm_ix (pm_var 0) pm_int) (pam_cons (pm_var 1) pam_nil)))))))) psm_nil)
      (psm_one (psm_ret (pm_and (pm_cmp (om_eq (hu64 hr)) (pm_ix (pm_var 0) pm_int) pm_str) (pm_and (pm_cmp (om_eq (hu64 hr)) (pm_callB cm_len T.z_len (pam_cons (pm_var 0) pam_nil)) pm_int) (pm_and (pm_callE h_is_label hr (by decide) tk (pam_cons (pm_ix (pm_var 0) pm_int) (pam_cons (pm_var 1) pam_nil))) (pm_one (pm_callE h_are_ties hr (by decide) tk (pam_cons (pm_ix (pm_var 0) pm_int) (pam_cons (pm_var 1) pam_nil)))))))))))))
theorem sc__law_cells : FnScope ["_law_script", "_law_seed", "_law_cell"] ["_law_script"] (defScope s__law_cells) := ⟨rfl, rfl, rfl, by decide +kernel, rfl, by decide +kernel, by decide +kernel⟩
theorem ok__law_cells (T : Txt K mg) : FnE P w K mg base 1 "_law_cells" s__law_cells ["_law_script"] G__law_cells := fn_e T.f__law_cells sc__law_cells fun f cdv A outer s H E hr tk => by
    exact (psm_cons (psm_set 1 pm_int sc__law_cells.nd)
      (psm_cons (psm_for (vs := [2]) (passes_of rfl) rfl (pim_any (pm_slice (pm_var 0) pom_none (pom_some pm_int))) (pgm_name 2 sc__law_cells.nd) (psm_one (psm_set 1 (pm_bin om_mod (pm_callTy cm_int T.z_int (pam_cons (pm_bin om_add (pm_bin om_add (pm_bin om_mul (pm_var 1) pm_int) (pm_bin om_mod (pm_callTy cm_int T.z_int (pam_cons (pm_var 2) pam_nil)) pm_int)) pm_int) pam_nil)) pm_int) sc__law_cells.nd)))
      (psm_one (psm_ret (pm_lstR (pam_cons (pm_callTy cm_list T.z_list (pam_cons (pm_slice (pm_var 0) pom_none (pom_some pm_int)) pam_nil)) (pam_cons pm_int (pam_cons pm_int (pam_cons (pm_var 1) (pam_cons pm_int pam_nil))))))))))
theorem sc__law_draw : FnScope ["_law_bag", "_law_sides", "_law_seed", "_law_cell", "_law_digit"] ["_law_bag", "_law_sides"] (defScope s__law_draw) := ⟨rfl, rfl, rfl, by decide +kernel, rfl, by decide +kernel, by decide +kernel⟩
theorem ok__law_draw (T : Txt K mg) : FnE P w K mg base 1 "_law_draw" s__law_draw ["_law_bag", "_law_sides"] G__law_draw := fn_e T.f__law_draw sc__law_draw fun f cdv A outer s H E hr tk => by
    exact (psm_cons (psm_asg (vs := []) (pm_bin om_add (pm_ix (pm_var 0) pm_int) pm_int) (pgm_sub (pm_var 0) pm_int))
      (psm_cons (psm_if (PWM.pt (pwm_and (ptm_cmp (om_eq (hu64 hr)) (pm_ix (pm_var 0) pm_int) pm_int) (pwm_and1 (ptm_cmp om_lt (pm_ix (pm_var 0) pm_int) (pm_callB cm_len T.z_len (pam_cons (pm_ix (pm_var 0) pm_int) pam_nil)))))) (psm_cons (psm_set 3 (pm_ix (pm_ix (pm_var 0) pm_int) (pm_ix (pm_var 0) pm_int)) sc__law_draw.nd)
      (psm_cons (psm_asg (vs := []) (pm_bin om_add (pm_ix (pm_var 0) pm_int) pm_int) (pgm_sub (pm_var 0) pm_int))
      (psm_one (psm_if (ptm_cmp om_ge (pm_var 3) (pm_bin om_pow pm_int pm_int)) (psm_one (psm_asg (vs := []) (pm_var 3) (pgm_sub (pm_var 0) pm_int))) (psm_one (psm_asg (vs := []) (pm_bin om_mod (pm_callTy cm_int T.z_int (pam_cons (pm_bin om_add (pm_bin om_add (pm_bin om_mul (pm_ix (pm_var 0) pm_int) pm_int) (pm_bin om_mul (pm_bin om_mod (pm_callTy cm_int T.z_int (pam_cons (pm_var 3) pam_nil)) pm_int) pm_int)) pm_int) pam_nil)) pm_int) (pgm_sub (pm_var 0) pm_int))))))) psm_nil)
      (psm_cons (psm_if (ptm_cmp om_gt (pm_ix (pm_var 0) pm_int) pm_int) (psm_cons (psm_set 4 (pm_bin om_mod (pm_callTy cm_int T.z_int (pam_cons (pm_ix (pm_var 0) pm_int) pam_nil)) (pm_var 1)) sc__law_draw.nd)
      (psm_cons (psm_asg (vs := []) (pm_bin om_div (pm_ix (pm_var 0) pm_int) (pm_var 1)) (pgm_sub (pm_var 0) pm_int))
      (psm_one (psm_ret (pm_var 4))))) psm_nil)
      (psm_cons (psm_set 2 (pm_ix (pm_var 0) pm_int) sc__law_draw.nd)
      (psm_cons (psm_asg (vs := []) (pm_bin om_mod (pm_callTy cm_int T.z_int (pam_cons (pm_bin om_add (pm_bin om_add (pm_bin om_add (pm_bin om_mul (pm_bin om_mul (pm_var 2) (pm_var 2)) pm_int) (pm_bin om_mul (pm_var 2) pm_int)) (pm_bin om_mul (pm_ix (pm_var 0) pm_int) pm_int)) pm_int) pam_nil)) pm_int) (pgm_sub (pm_var 0) pm_int))
      (psm_one (psm_ret (pm_bin om_mod (pm_callTy cm_int T.z_int (pam_cons (pm_bin om_add (pm_bin om_div (pm_ix (pm_var 0) pm_int) pm_int) (pm_bin om_mul (pm_bin om_mod (pm_callTy cm_int T.z_int (pam_cons (pm_ix (pm_var 0) pm_int) pam_nil)) pm_int) pm_int)) pam_nil)) (pm_var 1)))))))))
theorem sc__law_one : FnScope ["_law_bag", "_law_things"] ["_law_bag", "_law_things"] (defScope s__law_one) := ⟨rfl, rfl, rfl, by decide +kernel, rfl, by decide +kernel, by decide +kernel⟩
theorem ok__law_one (T : Txt K mg) (h__law_draw : FnE P w K mg base 1 "_law_draw" s__law_draw ["_law_bag", "_law_sides"] G__law_draw) : FnE P w K mg base 2 "_law_one" s__law_one ["_law_bag", "_law_things"] G__law_one := fn_e T.f__law_one sc__law_one fun f cdv A outer s H E hr tk => by
    exact (psm_one (psm_ret (pm_ix (pm_var 1) (pm_callE h__law_draw hr (by decide) tk (pam_cons (pm_var 0) (pam_cons (pm_callB cm_len T.z_len (pam_cons (pm_var 1) pam_nil)) pam_nil))))))
theorem sc__law_same : FnScope ["_law_found", "_law_due", "_law_a", "_law_b"] ["_law_found", "_law_due"] (defScope s__law_same) := ⟨rfl, rfl, rfl, by decide +kernel, rfl, by decide +kernel, by decide +kernel⟩
theorem ok__law_same (T : Txt K mg) : ∀ n : Nat, FnE P w K mg base (0 + n) "_law_same" s__law_same ["_law_found", "_law_due"] (G__law_same n)
  | 0 => fnE_bad T.f__law_same
  | n + 1 => fn_e T.f__law_same sc__law_same fun f cdv A outer s H E hr tk => by
    have h__law_same := ok__law_same T n
    exact (psm_cons (psm_if (ptm_tru (pm_callB (cm_isi ktB_ok) T.z_isinstance (pam_cons (pm_var 1) (pam_cons (pm_tup (pam_cons (pm_ty (n := "list") T.z_list) (pam_cons (pm_ty (n := "tuple") T.z_tuple) pam_nil))) pam_nil)))) (psm_cons (psm_if (PWM.pt (pwm_or (ptm_cmp (om_ne (hu64 hr)) (pm_callB (cm_isi ktB_ok) T.z_isinstance (pam_cons (pm_var 0) (pam_cons (pm_ty (n := "list") T.z_list) pam_nil))) (pm_callB (cm_isi ktB_ok) T.z_isinstance (pam_cons (pm_var 1) (pam_cons (pm_ty (n := "list") T.z_list) pam_nil)))) (pwm_or1 (ptm_cmp (om_ne (hu64 hr)) (pm_callB (cm_isi ktB_ok) T.z_isinstance (pam_cons (pm_var 0) (pam_cons (pm_ty (n := "tuple") T.z_tuple) pam_nil))) (pm_callB (cm_isi ktB_ok) T.z_isinstance (pam_cons (pm_var 1) (pam_cons (pm_ty (n := "tuple") T.z_tuple) pam_nil))))))) (psm_one (psm_ret pm_bl)) psm_nil)
      (psm_one (psm_ret (pm_and (pm_cmp (om_eq (hu64 hr)) (pm_callB cm_len T.z_len (pam_cons (pm_var 0) pam_nil)) (pm_callB cm_len T.z_len (pam_cons (pm_var 1) pam_nil))) (pm_one (pm_callB (cm_all rfl) T.z_all (pam_cons (pm_lc (own := [("_law_a", 2), ("_law_b", 3)]) rfl sc__law_same.nd (pim_zip T.z_zip (pam_cons (pm_var 0) (pam_cons (pm_var 1) pam_nil))) (show blkC ["_law_found", "_law_due", "_law_a", "_law_b"] (defScope s__law_same) _ [("_law_a", 2), ("_law_b", 3)] = true by decide +kernel) ⟨fun _ _ _ _ _ => (pgm_tup (n := 2) rfl (pgm_cons (pgm_name 2 sc__law_same.nd) (pgm_cons (pgm_name 3 sc__law_same.nd) pgm_nil))), fun _ _ _ _ _ => ptsm_nil, fun _ _ _ _ _ => (pm_callE h__law_same hr (Nat.le_refl _) takesE0 (pam_cons (pm_var 2) (pam_cons (pm_var 3) pam_nil)))⟩) pam_nil))))))) psm_nil)
      (psm_cons (psm_if (PWM.pt (pwm_or (ptm_cmp om_is (pm_var 1) pm_non) (pwm_or1 (ptm_cmp om_is (pm_var 0) pm_non)))) (psm_one (psm_ret (pm_and (pm_cmp om_is (pm_var 1) pm_non) (pm_one (pm_cmp om_is (pm_var 0) pm_non))))) psm_nil)
      (psm_cons (psm_if (PWM.pt (pwm_or (ptm_cmp (om_ne (hu64 hr)) (pm_callB (cm_isi ktB_ok) T.z_isinstance (pam_cons (pm_var 1) (pam_cons (pm_ty (n := "bool") T.z_bool) pam_nil))) (pm_callB (cm_isi ktB_ok) T.z_isinstance (pam_cons (pm_var 0) (pam_cons (pm_ty (n := "bool") T.z_bool) pam_nil)))) (pwm_or1 (ptm_cmp (om_ne (hu64 hr)) (pm_callB (cm_isi ktB_ok) T.z_isinstance (pam_cons (pm_var 1) (pam_cons (pm_ty (n := "int") T.z_int) pam_nil))) (pm_callB (cm_isi ktB_ok) T.z_isinstance (pam_cons (pm_var 0) (pam_cons (pm_ty (n := "int") T.z_int) pam_nil))))))) (psm_one (psm_ret pm_bl)) psm_nil)
      (psm_one (psm_ret (pm_and (pm_cmp (om_eq (hu64 hr)) (pm_callB (cm_isi ktB_ok) T.z_isinstance (pam_cons (pm_var 1) (pam_cons (pm_ty (n := "str") T.z_str) pam_nil))) (pm_callB (cm_isi ktB_ok) T.z_isinstance (pam_cons (pm_var 0) (pam_cons (pm_ty (n := "str") T.z_str) pam_nil)))) (pm_one (pm_cmp (om_eq (hu64 hr)) (pm_var 0) (pm_var 1)))))))))
theorem sc__law_top : FnScope ["_law_many_z"] ["_law_many_z"] (defScope s__law_top) := ⟨rfl, rfl, rfl, by decide +kernel, rfl, by decide +kernel, by decide +kernel⟩
theorem ok__law_top (T : Txt K mg) : FnE P w K mg base 1 "_law_top" s__law_top ["_law_many_z"] G__law_top := fn_e T.f__law_top sc__law_top fun f cdv A outer s H E hr tk => by
    exact (psm_one (psm_ret (pm_ix (pm_lst (pam_cons pm_int (pam_cons pm_int (pam_cons pm_int (pam_cons pm_int pam_nil))))) (pm_var 0))))
theorem sc__law_tied : FnScope ["_law_tie", "_law_many_z", "_law_one_here"] ["_law_tie", "_law_many_z"] (defScope s__law_tied) := ⟨rfl, rfl, rfl, by decide +kernel, rfl, by decide +kernel, by decide +kernel⟩
theorem ok__law_tied (T : Txt K mg) (h__law_top : FnE P w K mg base 1 "_law_top" s__law_top ["_law_many_z"] G__law_top) : FnE P w K mg base 2 "_law_tied" s__law_tied ["_law_tie", "_law_many_z"] G__law_tied := fn_e T.f__law_tied sc__law_tied fun f cdv A outer s H E hr tk => by
    exact (psm_cons (psm_if (PWM.pt (pwm_or (ptm_not (ptm_tru (pm_callB (cm_isi ktB_ok) T.z_isinstance (pam_cons (pm_var 0) (pam_cons (pm_ty (n := "tuple") T.z_tuple) pam_nil))))) (pwm_or1 (ptm_cmp (om_ne (hu64 hr)) (pm_callB cm_len T.z_len (pam_cons (pm_var 0) pam_nil)) pm_int)))) (psm_one (psm_ret pm_bl)) psm_nil)
      (psm_cons (psm_if (ptm_not (ptm_tru (pm_callB (cm_all rfl) T.z_all (pam_cons (pm_lc (own := [("_law_one_here", 2)]) rfl sc__law_tied.nd (pim_any (pm_var 0)) (show blkC ["_law_tie", "_law_many_z", "_law_one_here"] (defScope s__law_tied) _ [("_law_one_here", 2)] = true by decide +kernel) ⟨fun _ _ _ _ _ => (pgm_name 2 sc__law_tied.nd), fun _ _ _ _ _ => ptsm_nil, fun _ _ _ _ _ => (pm_and (pm_callB (cm_isi ktB_ok) T.z_isinstance (pam_cons (pm_var 2) (pam_cons (pm_ty (n := "int") T.z_int) pam_nil))) (pm_and (pm_not (pm_callB (cm_isi ktB_ok) T.z_isinstance (pam_cons (pm_var 2) (pam_cons (pm_ty (n := "bool") T.z_bool) pam_nil)))) (pm_one (pm_chain om_le om_lt pm_int (pm_var 2) (pm_callE h__law_top hr (by decide) takesE0 (pam_cons (pm_var 1) pam_nil))))))⟩) pam_nil)))) (psm_one (psm_ret pm_bl)) psm_nil)
      (psm_one (psm_ret (pm_cmp om_le (pm_ix (pm_var 0) pm_int) (pm_ix (pm_var 0) pm_int))))))
theorem sc__law_joined : FnScope ["_law_ties", "_law_labels", "_law_turn", "_law_label", "_law_low", "_law_high", "_law_tie"] ["_law_ties"] (defScope s__law_joined) := ⟨rfl, rfl, rfl, by decide +kernel, rfl, by decide +kernel, by decide +kernel⟩
theorem ok__law_joined (T : Txt K mg) : FnE P w K mg base 1 "_law_joined" s__law_joined ["_law_ties"] G__law_joined := fn_e T.f__law_joined sc__law_joined fun f cdv A outer s H E hr tk => by
    exact (psm_cons (psm_set 1 (pm_callTy cm_list T.z_list (pam_cons (pm_slice (pm_ix (pm_var 0) pm_int) (pom_some pm_int) pom_none) pam_nil)) sc__law_joined.nd)
      (psm_cons (psm_for (vs := [2]) (passes_of rfl) rfl (pim_range1 T.z_range (pam_cons (pm_callB cm_len T.z_len (pam_cons (pm_var 0) pam_nil)) pam_nil)) (pgm_name 2 sc__law_joined.nd) (psm_one (psm_for (vs := [3, 4, 5]) (passes_of rfl) rfl (pim_any (pm_var 0)) (pgm_tup (n := 3) rfl (pgm_cons (pgm_name 3 sc__law_joined.nd) (pgm_cons (pgm_name 4 sc__law_joined.nd) (pgm_cons (pgm_name 5 sc__law_joined.nd) pgm_nil)))) (psm_one (psm_set 1 (pm_ifExp (PWM.pt (pwm_or (ptm_cmp (om_in (hu65 hr)) (pm_var 4) (pm_var 1)) (pwm_or1 (ptm_cmp (om_in (hu65 hr)) (pm_var 5) (pm_var 1))))) (pm_bin om_add (pm_var 1) (pm_lst (pam_cons (pm_var 4) (pam_cons (pm_var 5) pam_nil)))) (pm_var 1)) sc__law_joined.nd)))))
      (psm_one (psm_ret (pm_callB (cm_all rfl) T.z_all (pam_cons (pm_lc (own := [("_law_tie", 6)]) rfl sc__law_joined.nd (pim_any (pm_var 0)) (show blkC ["_law_ties", "_law_labels", "_law_turn", "_law_label", "_law_low", "_law_high", "_law_tie"] (defScope s__law_joined) _ [("_law_tie", 6)] = true by decide +kernel) ⟨fun _ _ _ _ _ => (pgm_name 6 sc__law_joined.nd), fun _ _ _ _ _ => ptsm_nil, fun _ _ _ _ _ => (pm_cmp (om_in (hu65 hr)) (pm_ix (pm_var 6) pm_int) (pm_var 1))⟩) pam_nil))))))
theorem sc__law_kindly : FnScope ["_law_kind", "_law_many_z", "_law_good", "_law_one_here", "_law_tie"] ["_law_kind", "_law_many_z"] (defScope s__law_kindly) := ⟨rfl, rfl, rfl, by decide +kernel, rfl, by decide +kernel, by decide +kernel⟩
theorem ok__law_kindly (T : Txt K mg) (h__law_tied : FnE P w K mg base 2 "_law_tied" s__law_tied ["_law_tie", "_law_many_z"] G__law_tied) (h__law_joined : FnE P w K mg base 1 "_law_joined" s__law_joined ["_law_ties"] G__law_joined) : FnE P w K mg base 3 "_law_kindly" s__law_kindly ["_law_kind", "_law_many_z"] G__law_kindly := fn_e T.f__law_kindly sc__law_kindly fun f cdv A outer s H E hr tk => by
    exact (psm_cons (psm_if (PWM.pt (pwm_or (ptm_not (ptm_tru (pm_callB (cm_isi ktB_ok) T.z_isinstance (pam_cons (pm_var 0) (pam_cons (pm_ty (n := "tuple") T.z_tuple) pam_nil))))) (pwm_or (ptm_cmp om_lt (pm_callB cm_len T.z_len (pam_cons (pm_var 0) pam_nil)) pm_int) (pwm_or1 (ptm_cmp (om_notIn (hu65 hr)) (pm_ix (pm_var 0) pm_int) (pm_lst (pam_cons pm_str (pam_cons pm_str (pam_cons pm_str (pam_cons pm_str pam_nil)))))))))) (psm_one (psm_ret pm_bl)) psm_nil)
      (psm_cons (psm_if (ptm_cmp (om_eq (hu64 hr)) (pm_ix (pm_var 0) pm_int) pm_str) (psm_one (psm_ret (pm_and (pm_cmp (om_eq (hu64 hr)) (pm_callB cm_len T.z_len (pam_cons (pm_var 0) pam_nil)) pm_int) (pm_one (pm_callE h__law_tied hr (by decide) tk (pam_cons (pm_slice (pm_var 0) (pom_some pm_int) pom_none) (pam_cons (pm_var 1) pam_nil))))))) psm_nil)
      (psm_cons (psm_if (ptm_cmp (om_eq (hu64 hr)) (pm_ix (pm_var 0) pm_int) pm_str) (psm_cons (psm_set 2 (pm_and (pm_cmp (om_eq (hu64 hr)) (pm_callB cm_len T.z_len (pam_cons (pm_var 0) pam_nil)) pm_int) (pm_and (pm_callE h__law_tied hr (by decide) tk (pam_cons (pm_tup (pam_cons (pm_ix (pm_var 0) pm_int) (pam_cons pm_int (pam_cons pm_int pam_nil)))) (pam_cons (pm_var 1) pam_nil))) (pm_and (pm_callB (cm_isi ktB_ok) T.z_isinstance (pam_cons (pm_ix (pm_var 0) pm_int) (pam_cons (pm_ty (n := "tuple") T.z_tuple) pam_nil))) (pm_one (pm_chain om_le om_le pm_int (pm_callB cm_len T.z_len (pam_cons (pm_ix (pm_var 0) pm_int) pam_nil)) pm_int))))) sc__law_kindly.nd)
      (psm_one (psm_ret (pm_and (pm_var 2) (pm_and (pm_callB (cm_all rfl) T.z_all (pam_cons (pm_lc (own := [("_law_tie", 4)]) rfl sc__law_kindly.nd (pim_any (pm_ix (pm_var 0) pm_int)) (show blkC ["_law_kind", "_law_many_z", "_law_good", "_law_one_here", "_law_tie"] (defScope s__law_kindly) _ [("_law_tie", 4)] = true by decide +kernel) ⟨fun _ _ _ _ _ => (pgm_name 4 sc__law_kindly.nd), fun _ _ _ _ _ => ptsm_nil, fun _ _ _ _ _ => (pm_callE h__law_tied hr (by decide) takesE0 (pam_cons (pm_var 4) (pam_cons (pm_var 1) pam_nil)))⟩) pam_nil)) (pm_and (pm_cmp (om_eq (hu64 hr)) (pm_callTy cm_list T.z_list (pam_cons (pm_ix (pm_var 0) pm_int) pam_nil)) (pm_srtsetT rfl (hu64 hr) rfl T.z_sorted rfl T.z_set (pm_ix (pm_var 0) pm_int))) (pm_one (pm_callE h__law_joined hr (by decide) tk (pam_cons (pm_ix (pm_var 0) pm_int) pam_nil))))))))) psm_nil)
      (psm_one (psm_ret (pm_and (pm_cmp (om_eq (hu64 hr)) (pm_callB cm_len T.z_len (pam_cons (pm_var 0) pam_nil)) (pm_ifExp (ptm_cmp (om_eq (hu64 hr)) (pm_ix (pm_var 0) pm_int) pm_str) pm_int pm_int)) (pm_one (pm_callB (cm_all rfl) T.z_all (pam_cons (pm_lc (own := [("_law_one_here", 3)]) rfl sc__law_kindly.nd (pim_any (pm_slice (pm_var 0) (pom_some pm_int) pom_none)) (show blkC ["_law_kind", "_law_many_z", "_law_good", "_law_one_here", "_law_tie"] (defScope s__law_kindly) _ [("_law_one_here", 3)] = true by decide +kernel) ⟨fun _ _ _ _ _ => (pgm_name 3 sc__law_kindly.nd), fun _ _ _ _ _ => ptsm_nil, fun _ _ _ _ _ => (pm_callE h__law_tied hr (by decide) takesE0 (pam_cons (pm_tup (pam_cons (pm_var 3) (pam_cons pm_int (pam_cons pm_int pam_nil)))) (pam_cons (pm_var 1) pam_nil)))⟩) pam_nil)))))))))
theorem sc_law : FnScope ["_law_script", "_law_bag", "_law_turn", "_law_wide", "_law_many_z", "_law_top_here", "_law_rows", "_law_ties", "_law_label", "_law_kind", "_law_k", "_law_low", "_law_high"] ["_law_script"] (defScope s_law) := ⟨rfl, rfl, rfl, by decide +kernel, rfl, by decide +kernel, by decide +kernel⟩
theorem ok_law (T : Txt K mg) (h_is_kind : FnE P w K mg base 5 "is_kind" s_is_kind ["value", "many"] G_is_kind) (h__law_cells : FnE P w K mg base 1 "_law_cells" s__law_cells ["_law_script"] G__law_cells) (h__law_draw : FnE P w K mg base 1 "_law_draw" s__law_draw ["_law_bag", "_law_sides"] G__law_draw) (h__law_one : FnE P w K mg base 2 "_law_one" s__law_one ["_law_bag", "_law_things"] G__law_one) (h__law_same : FnE P w K mg base 10 "_law_same" s__law_same ["_law_found", "_law_due"] (G__law_same 10)) (h__law_top : FnE P w K mg base 1 "_law_top" s__law_top ["_law_many_z"] G__law_top) (h__law_kindly : FnE P w K mg base 3 "_law_kindly" s__law_kindly ["_law_kind", "_law_many_z"] G__law_kindly) : FnE P w K mg base 11 "law" s_law ["_law_script"] G_law := fn_e T.f_law sc_law fun f cdv A outer s H E hr tk => by
    exact (psm_cons (psm_set 1 (pm_callE h__law_cells hr (by decide) tk (pam_cons (pm_var 0) pam_nil)) sc_law.nd)
      (psm_cons (psm_for (vs := [2]) (passes_of rfl) rfl (pim_range1 T.z_range (pam_cons pm_int pam_nil)) (pgm_name 2 sc_law.nd) (psm_cons (psm_set 4 (pm_callE h__law_draw hr (by decide) tk (pam_cons (pm_var 1) (pam_cons pm_int pam_nil))) sc_law.nd)
      (psm_cons (psm_set 5 (pm_callE h__law_top hr (by decide) tk (pam_cons (pm_var 4) pam_nil)) sc_law.nd)
      (psm_cons (psm_setLc (own := [("_law_k", 10)]) 6 rfl sc_law.nd (pim_range1 T.z_range (pam_cons (pm_bin om_add pm_int (pm_callE h__law_draw hr (by decide) tk (pam_cons (pm_var 1) (pam_cons pm_int pam_nil)))) pam_nil)) (show blkC ["_law_script", "_law_bag", "_law_turn", "_law_wide", "_law_many_z", "_law_top_here", "_law_rows", "_law_ties", "_law_label", "_law_kind", "_law_k", "_law_low", "_law_high"] (defScope s_law) _ [("_law_k", 10)] = true by decide +kernel) ⟨fun _ _ _ _ _ => (pgm_name 10 sc_law.nd), fun _ _ _ _ _ => ptsm_nil, fun _ _ _ _ _ => (pm_callB cm_sorted T.z_sorted (pam_cons (pm_lst (pam_cons (pm_callE h__law_draw hr (by decide) takesE0 (pam_cons (pm_var 1) (pam_cons (pm_var 5) pam_nil))) (pam_cons (pm_callE h__law_draw hr (by decide) takesE0 (pam_cons (pm_var 1) (pam_cons (pm_var 5) pam_nil))) pam_nil))) pam_nil))⟩)
      (psm_cons (psm_setLc (own := [("_law_low", 11), ("_law_high", 12)]) 7 rfl sc_law.nd (pim_any (pm_var 6)) (show blkC ["_law_script", "_law_bag", "_law_turn", "_law_wide", "_law_many_z", "_law_top_here", "_law_rows", "_law_ties", "_law_label", "_law_kind", "_law_k", "_law_low", "_law_high"] (defScope s_law) _ [("_law_low", 11), ("_law_high", 12)] = true by decide +kernel) ⟨fun _ _ _ _ _ => (pgm_lst (n := 2) rfl (pgm_cons (pgm_name 11 sc_law.nd) (pgm_cons (pgm_name 12 sc_law.nd) pgm_nil))), fun _ _ _ _ _ => ptsm_nil, fun _ _ _ _ _ => (pm_tup (pam_cons (pm_callE h__law_draw hr (by decide) takesE0 (pam_cons (pm_var 1) (pam_cons (pm_var 5) pam_nil))) (pam_cons (pm_var 11) (pam_cons (pm_var 12) pam_nil))))⟩)
      (psm_cons (psm_set 7 (pm_callE h__law_one hr (by decide) tk (pam_cons (pm_var 1) (pam_cons (pm_lst (pam_cons (pm_callTy cm_tuple T.z_tuple (pam_cons (pm_srtset rfl (hu64 hr) rfl T.z_sorted rfl T.z_set (pm_var 7)) pam_nil)) (pam_cons (pm_callTy cm_tuple T.z_tuple (pam_cons (pm_srtset rfl (hu64 hr) rfl T.z_sorted rfl T.z_set (pm_var 7)) pam_nil)) (pam_cons (pm_callTy cm_tuple T.z_tuple (pam_cons (pm_var 7) pam_nil)) (pam_cons (pm_var 7) (pam_cons (pm_bin om_add (pm_callTy cm_tuple T.z_tuple (pam_cons (pm_var 7) pam_nil)) (pm_tup (pam_cons pm_non pam_nil))) (pam_cons (pm_tup pam_nil) pam_nil))))))) pam_nil))) sc_law.nd)
      (psm_cons (psm_set 8 (pm_callE h__law_one hr (by decide) tk (pam_cons (pm_var 1) (pam_cons (pm_lst (pam_cons (pm_callE h__law_draw hr (by decide) tk (pam_cons (pm_var 1) (pam_cons (pm_var 5) pam_nil))) (pam_cons (pm_callE h__law_draw hr (by decide) tk (pam_cons (pm_var 1) (pam_cons (pm_var 5) pam_nil))) (pam_cons (pm_var 5) (pam_cons (pm_bin om_sub pm_int pm_int) (pam_cons pm_non (pam_cons pm_bl (pam_cons pm_str pam_nil)))))))) pam_nil))) sc_law.nd)
      (psm_cons (psm_set 9 (pm_callE h__law_one hr (by decide) tk (pam_cons (pm_var 1) (pam_cons (pm_lst (pam_cons (pm_tup (pam_cons pm_str (pam_cons (pm_var 8) pam_nil))) (pam_cons (pm_tup (pam_cons pm_str (pam_cons (pm_var 8) (pam_cons pm_int (pam_cons (pm_callE h__law_draw hr (by decide) tk (pam_cons (pm_var 1) (pam_cons (pm_var 5) pam_nil))) pam_nil))))) (pam_cons (pm_tup (pam_cons pm_str (pam_cons pm_int (pam_cons pm_int (pam_cons pm_int pam_nil))))) (pam_cons (pm_tup (pam_cons pm_str (pam_cons (pm_var 8) (pam_cons (pm_callE h__law_draw hr (by decide) tk (pam_cons (pm_var 1) (pam_cons (pm_bin om_add (pm_var 5) pm_int) pam_nil))) pam_nil)))) (pam_cons (pm_tup (pam_cons pm_str (pam_cons (pm_var 8) (pam_cons (pm_var 7) pam_nil)))) (pam_cons (pm_tup (pam_cons pm_str (pam_cons pm_int (pam_cons (pm_var 7) pam_nil)))) (pam_cons (pm_tup (pam_cons pm_str (pam_cons (pm_var 8) (pam_cons pm_int pam_nil)))) (pam_cons (pm_tup (pam_cons pm_str (pam_cons (pm_var 8) pam_nil))) (pam_cons (pm_lst (pam_cons pm_str (pam_cons pm_int pam_nil))) (pam_cons pm_non (pam_cons pm_str (pam_cons (pm_tup pam_nil) (pam_cons (pm_tup (pam_cons pm_str (pam_cons pm_int pam_nil))) (pam_cons (pm_tup (pam_cons pm_int (pam_cons pm_int pam_nil))) (pam_cons (pm_tup (pam_cons pm_str (pam_cons pm_int pam_nil))) pam_nil)))))))))))))))) pam_nil))) sc_law.nd)
      (psm_one (psm_if (ptm_not (ptm_tru (pm_callE h__law_same hr (by decide) tk (pam_cons (pm_lst (pam_cons (pm_callE h_is_kind hr (by decide) tk (pam_cons (pm_var 9) (pam_cons (pm_var 4) pam_nil))) (pam_cons (pm_callK0 [1, 0] ["many", "value"] h_is_kind hr (by decide) tk (pkm_cons (pm_var 4) (pkm_cons (pm_var 9) pkm_nil)) (fun _ _ _ _ _ _ us ws hu hw => match us, ws, hu, hw with | [], [_, _], _, _ => rfl)) pam_nil))) (pam_cons (pm_bin om_mul (pm_lst (pam_cons (pm_callE h__law_kindly hr (by decide) tk (pam_cons (pm_var 9) (pam_cons (pm_var 4) pam_nil))) pam_nil)) pm_int) pam_nil))))) (psm_one (psm_ret pm_bl)) psm_nil))))))))))
      (psm_cons (psm_set 3 (pm_callTy cm_tuple T.z_tuple (pam_cons (pm_callB cm_sorted T.z_sorted (pam_cons (pm_bin om_add (pm_bin om_add (pm_lc (own := [("_law_k", 10)]) rfl sc_law.nd (pim_range1 T.z_range (pam_cons pm_int pam_nil)) (show blkC ["_law_script", "_law_bag", "_law_turn", "_law_wide", "_law_many_z", "_law_top_here", "_law_rows", "_law_ties", "_law_label", "_law_kind", "_law_k", "_law_low", "_law_high"] (defScope s_law) _ [("_law_k", 10)] = true by decide +kernel) ⟨fun _ _ _ _ _ => (pgm_name 10 sc_law.nd), fun _ _ _ _ _ => ptsm_nil, fun _ _ _ _ _ => (pm_tup (pam_cons (pm_var 10) (pam_cons pm_int (pam_cons pm_int pam_nil))))⟩) (pm_lc (own := [("_law_k", 10)]) rfl sc_law.nd (pim_range1 T.z_range (pam_cons pm_int pam_nil)) (show blkC ["_law_script", "_law_bag", "_law_turn", "_law_wide", "_law_many_z", "_law_top_here", "_law_rows", "_law_ties", "_law_label", "_law_kind", "_law_k", "_law_low", "_law_high"] (defScope s_law) _ [("_law_k", 10)] = true by decide +kernel) ⟨fun _ _ _ _ _ => (pgm_name 10 sc_law.nd), fun _ _ _ _ _ => ptsm_nil, fun _ _ _ _ _ => (pm_tup (pam_cons (pm_var 10) (pam_cons pm_int (pam_cons pm_int pam_nil))))⟩)) (pm_lc (own := [("_law_k", 10)]) rfl sc_law.nd (pim_range1 T.z_range (pam_cons pm_int pam_nil)) (show blkC ["_law_script", "_law_bag", "_law_turn", "_law_wide", "_law_many_z", "_law_top_here", "_law_rows", "_law_ties", "_law_label", "_law_kind", "_law_k", "_law_low", "_law_high"] (defScope s_law) _ [("_law_k", 10)] = true by decide +kernel) ⟨fun _ _ _ _ _ => (pgm_name 10 sc_law.nd), fun _ _ _ _ _ => ptsm_nil, fun _ _ _ _ _ => (pm_tup (pam_cons (pm_var 10) (pam_cons pm_int (pam_cons pm_int pam_nil))))⟩)) pam_nil)) pam_nil)) sc_law.nd)
      (psm_one (psm_ret (pm_callE h__law_same hr (by decide) tk (pam_cons (pm_lst (pam_cons (pm_callB cm_len T.z_len (pam_cons (pm_var 3) pam_nil)) (pam_cons (pm_callE h_is_kind hr (by decide) tk (pam_cons (pm_tup (pam_cons pm_str (pam_cons pm_int (pam_cons (pm_var 3) pam_nil)))) (pam_cons pm_int pam_nil))) (pam_cons (pm_callE h_is_kind hr (by decide) tk (pam_cons (pm_tup (pam_cons pm_str (pam_cons pm_int (pam_cons (pm_bin om_add (pm_tup (pam_cons (pm_tup (pam_cons pm_int (pam_cons pm_int (pam_cons pm_int pam_nil)))) pam_nil)) (pm_var 3)) pam_nil)))) (pam_cons pm_int pam_nil))) (pam_cons (pm_callE h_is_kind hr (by decide) tk (pam_cons (pm_tup (pam_cons pm_str (pam_cons pm_int pam_nil))) (pam_cons pm_int pam_nil))) pam_nil))))) (pam_cons (pm_lst (pam_cons pm_int (pam_cons pm_bl (pam_cons pm_bl (pam_cons pm_bl pam_nil))))) pam_nil))))))))
theorem all_ok (T : Txt K mg) : FnE P w K mg base 11 "law" s_law ["_law_script"] G_law := by
  have h_is_number := ok_is_number (P := P) (w := w) (base := base) T
  have h_is_label := ok_is_label (P := P) (w := w) (base := base) T h_is_number
  have h_is_tie := ok_is_tie (P := P) (w := w) (base := base) T h_is_label
  have h_reached := ok_reached (P := P) (w := w) (base := base) T
  have h_hang_together := ok_hang_together (P := P) (w := w) (base := base) T h_reached
  have h_are_ties := ok_are_ties (P := P) (w := w) (base := base) T h_is_tie h_hang_together
  have h_is_kind := ok_is_kind (P := P) (w := w) (base := base) T h_is_label h_is_tie h_are_ties
  have h__law_cells := ok__law_cells (P := P) (w := w) (base := base) T
  have h__law_draw := ok__law_draw (P := P) (w := w) (base := base) T
  have h__law_one := ok__law_one (P := P) (w := w) (base := base) T h__law_draw
  have h__law_same := ok__law_same (P := P) (w := w) (base := base) T 10
  have h__law_top := ok__law_top (P := P) (w := w) (base := base) T
  have h__law_tied := ok__law_tied (P := P) (w := w) (base := base) T h__law_top
  have h__law_joined := ok__law_joined (P := P) (w := w) (base := base) T
  have h__law_kindly := ok__law_kindly (P := P) (w := w) (base := base) T h__law_tied h__law_joined
  have h_law := ok_law (P := P) (w := w) (base := base) T h_is_kind h__law_cells h__law_draw h__law_one h__law_same h__law_top h__law_kindly
  exact h_law
end
end Dk11
end

section
set_option maxRecDepth 100000
set_option maxHeartbeats 4000000
namespace Dk11
open PySem PySem.Spec L2 RL LC LT MT OrdX
open PyProof.Rows hiding St
def Dat (w : W) : Prop := match w with
  | .non | .bl _ | .int _ | .str _ | .tup _ | .lst _ => True
  | _ => False
def top (m : Nat) : Int := match m with
  | 0 => 1
  | 1 => 2
  | 2 => 4
  | _ => 8
def labW (w : W) (t : Int) : Bool := match w with
  | .int i => decide (0 ≤ i) && decide (i < t)
  | _ => false
def numW (w : W) (lo hi : Int) : Bool := match w with
  | .int i => decide (lo ≤ i) && decide (i ≤ hi)
  | _ => false
theorem isi {t : String} {w : W} {x : String} {b : Bool} {T : Store} (h1 : tyOf T w = some (.ty t)) (h2 : ktB (.ty t) (.ty x) = some b) : gIsi ktB [w, .ty x] T = .ok (.bl b) T := by
  simp [gIsi, gIsi1, h1, isCls, h2]
section
variable {S : Store} {w : W} {lo hi : Int} {m : Nat}
theorem is_number_ok (h : Dat w) : G_is_number [w, .int lo, .int hi] S = .ok (.bl (numW w lo hi)) S := by
  cases w with
  | non => simp [G_is_number, runB_eq, sh_is_number, startW, isi (w := .non) (t := "NoneType") (x := "int") (b := false) (T := S) rfl rfl, numW]
  | bl b => simp [G_is_number, runB_eq, sh_is_number, startW, isi (w := .bl b) (t := "bool") (x := "int") (b := true) (T := S) rfl rfl, isi (w := .bl b) (t := "bool") (x := "bool") (b := true) (T := S) rfl rfl, numW, mNotV]
  | int i =>
    have e1 := isi (w := .int i) (t := "int") (x := "int") (b := true) (T := S) rfl rfl
    have e2 := isi (w := .int i) (t := "int") (x := "bool") (b := false) (T := S) rfl rfl
    by_cases c : lo ≤ i <;> simp [G_is_number, runB_eq, sh_is_number, startW, e1, e2, numW, mNotV, c]
  | str b => simp [G_is_number, runB_eq, sh_is_number, startW, isi (w := .str b) (t := "str") (x := "int") (b := false) (T := S) rfl rfl, numW]
  | tup b => simp [G_is_number, runB_eq, sh_is_number, startW, isi (w := .tup b) (t := "tuple") (x := "int") (b := false) (T := S) rfl rfl, numW]
  | lst b => simp [G_is_number, runB_eq, sh_is_number, startW, isi (w := .lst b) (t := "list") (x := "int") (b := false) (T := S) rfl rfl, numW]
  | _ => exact h.elim
theorem num_lab : numW w 0 (top m - 1) = labW w (top m) := by
  cases w with
  | int i =>
    simp only [numW, labW]
    rw [show decide (i ≤ top m - 1) = decide (i < top m) from by rw [decide_eq_decide]; omega]
  | _ => rfl
theorem is_label_ok (h : Dat w) (hm : m < 4) : G_is_label [w, .int m] S = .ok (.bl (labW w (top m))) S := by
  rw [← num_lab]
  have k := fun hi => is_number_ok (S := S) (lo := 0) (hi := hi) h
  match m, hm with
  | 0, _ => simp [G_is_label, runB_eq, sh_is_label, startW, k, top]
  | 1, _ => simp [G_is_label, runB_eq, sh_is_label, startW, k, top]
  | 2, _ => simp [G_is_label, runB_eq, sh_is_label, startW, k, top]
  | 3, _ => simp [G_is_label, runB_eq, sh_is_label, startW, k, top]
theorem law_top_ok (hm : m < 4) : G__law_top [.int m] S = .ok (.int (top m)) S := by
  match m, hm with
  | 0, _ => simp [G__law_top, runB_eq, sh__law_top, startW, top]
  | 1, _ => simp [G__law_top, runB_eq, sh__law_top, startW, top]
  | 2, _ => simp [G__law_top, runB_eq, sh__law_top, startW, top]
  | 3, _ => simp [G__law_top, runB_eq, sh__law_top, startW, top]
def leW (a b : W) : Bool := match a, b with
  | .int x, .int y => decide (x ≤ y)
  | _, _ => false
def tieB (w : W) (t : Int) : Bool := match w with
  | .tup [a, b, c] => (labW a t && (labW b t && labW c t)) && leW b c
  | _ => false
theorem labW_int {w : W} {t : Int} (h : labW w t = true) : ∃ i, w = .int i ∧ 0 ≤ i ∧ i < t := by
  cases w with
  | int i =>
    simp only [labW, Bool.and_eq_true, decide_eq_true_eq] at h
    exact ⟨i, rfl, h⟩
  | _ => cases h
/-- parts that can be looked at -/
def Dat2 (w : W) : Prop := Dat w ∧ ∀ ws, w = .tup ws → ws.length ≤ 64 ∧ ∀ u, u ∈ ws → Dat u
theorem is_tie_ok (h : Dat2 w) (hm : m < 4) : G_is_tie [w, .int m] S = .ok (.bl (tieB w (top m))) S := by
  obtain ⟨h, h2⟩ := h
  cases w with
  | non => simp [G_is_tie, runB_eq, sh_is_tie, startW, isi (w := .non) (t := "NoneType") (x := "tuple") (b := false) (T := S) rfl rfl, tieB, truW]
  | bl b => simp [G_is_tie, runB_eq, sh_is_tie, startW, isi (w := .bl b) (t := "bool") (x := "tuple") (b := false) (T := S) rfl rfl, tieB, truW]
  | int b => simp [G_is_tie, runB_eq, sh_is_tie, startW, isi (w := .int b) (t := "int") (x := "tuple") (b := false) (T := S) rfl rfl, tieB, truW]
  | str b => simp [G_is_tie, runB_eq, sh_is_tie, startW, isi (w := .str b) (t := "str") (x := "tuple") (b := false) (T := S) rfl rfl, tieB, truW]
  | lst b => simp [G_is_tie, runB_eq, sh_is_tie, startW, isi (w := .lst b) (t := "list") (x := "tuple") (b := false) (T := S) rfl rfl, tieB, truW]
  | tup ws =>
    have e0 := isi (w := .tup ws) (t := "tuple") (x := "tuple") (b := true) (T := S) rfl rfl
    obtain ⟨hl, hd⟩ := h2 ws rfl
    by_cases c3 : ws.length = 3
    · match ws, c3 with
      | [a, b, c], _ =>
        have la := is_label_ok (S := S) (m := m) (hd a (by simp)) hm
        have lb := is_label_ok (S := S) (m := m) (hd b (by simp)) hm
        have lc := is_label_ok (S := S) (m := m) (hd c (by simp)) hm
        cases ea : labW a (top m)
        · simp [G_is_tie, runB_eq, sh_is_tie, startW, e0, tieB, truW, wipeW, la, lb, lc, ea, gAll, blsW]
        · cases eb : labW b (top m)
          · simp [G_is_tie, runB_eq, sh_is_tie, startW, e0, tieB, truW, wipeW, la, lb, lc, ea, eb, gAll, blsW]
          · cases ec : labW c (top m)
            · simp [G_is_tie, runB_eq, sh_is_tie, startW, e0, tieB, truW, wipeW, la, lb, lc, ea, eb, ec, gAll, blsW]
            · obtain ⟨x, rfl, _⟩ := labW_int eb
              obtain ⟨y, rfl, _⟩ := labW_int ec
              simp [G_is_tie, runB_eq, sh_is_tie, startW, e0, tieB, truW, wipeW, la, lb, lc, ea, eb, ec, gAll, blsW, leW]
    · have hf : tieB (.tup ws) (top m) = false := by
        unfold tieB
        match ws, c3 with
        | [], _ => rfl
        | [_], _ => rfl
        | [_, _], _ => rfl
        | [_, _, _], c => exact absurd rfl c
        | _ :: _ :: _ :: _ :: _, _ => rfl
      have ne : ¬ ((ws.length : Int) = 3) := by omega
      simp [G_is_tie, runB_eq, sh_is_tie, startW, e0, hf, truW, ne]
  | _ => exact h.elim
end

section
variable {S : Store} {w : W} {m : Nat}
theorem in_ok (hd : Dat w) (hm : m < 4) {a : Option W} : (mAndV (mAp (gIsi ktB) (mCons (mVar 2) (mCons (mC (.ty "int")) mNil))) (mAndV (mNotV (mAp (gIsi ktB) (mCons (mVar 2) (mCons (mC (.ty "bool")) mNil)))) (mChain gLe gLt (mC (.int 0)) (mVar 2) (mAp G__law_top (mCons (mVar 1) mNil))))) [a, some (.int m), some w] S = .ok (.bl (labW w (top m))) S := by
  have ht := law_top_ok (S := S) hm
  cases w with
  | non => simp [isi (w := .non) (t := "NoneType") (x := "int") (b := false) (T := S) rfl rfl, labW]
  | bl b => simp [isi (w := .bl b) (t := "bool") (x := "int") (b := true) (T := S) rfl rfl, isi (w := .bl b) (t := "bool") (x := "bool") (b := true) (T := S) rfl rfl, labW, mNotV]
  | int i =>
    have e1 := isi (w := .int i) (t := "int") (x := "int") (b := true) (T := S) rfl rfl
    have e2 := isi (w := .int i) (t := "int") (x := "bool") (b := false) (T := S) rfl rfl
    by_cases c : 0 ≤ i <;> simp [e1, e2, labW, mNotV, c, ht]
  | str b => simp [isi (w := .str b) (t := "str") (x := "int") (b := false) (T := S) rfl rfl, labW]
  | tup b => simp [isi (w := .tup b) (t := "tuple") (x := "int") (b := false) (T := S) rfl rfl, labW]
  | lst b => simp [isi (w := .lst b) (t := "list") (x := "int") (b := false) (T := S) rfl rfl, labW]
  | _ => exact hd.elim
theorem law_tied_ok (h : Dat2 w) (hm : m < 4) : G__law_tied [w, .int m] S = .ok (.bl (tieB w (top m))) S := by
  obtain ⟨h, h2⟩ := h
  cases w with
  | non => simp [G__law_tied, runB_eq, sh__law_tied, startW, isi (w := .non) (t := "NoneType") (x := "tuple") (b := false) (T := S) rfl rfl, tieB, truW]
  | bl b => simp [G__law_tied, runB_eq, sh__law_tied, startW, isi (w := .bl b) (t := "bool") (x := "tuple") (b := false) (T := S) rfl rfl, tieB, truW]
  | int b => simp [G__law_tied, runB_eq, sh__law_tied, startW, isi (w := .int b) (t := "int") (x := "tuple") (b := false) (T := S) rfl rfl, tieB, truW]
  | str b => simp [G__law_tied, runB_eq, sh__law_tied, startW, isi (w := .str b) (t := "str") (x := "tuple") (b := false) (T := S) rfl rfl, tieB, truW]
  | lst b => simp [G__law_tied, runB_eq, sh__law_tied, startW, isi (w := .lst b) (t := "list") (x := "tuple") (b := false) (T := S) rfl rfl, tieB, truW]
  | tup ws =>
    have e0 := isi (w := .tup ws) (t := "tuple") (x := "tuple") (b := true) (T := S) rfl rfl
    obtain ⟨hl, hd⟩ := h2 ws rfl
    by_cases c3 : ws.length = 3
    · match ws, c3 with
      | [a, b, c], _ =>
        have la := in_ok (S := S) (m := m) (hd a (by simp)) hm (a := some (.tup [a, b, c]))
        have lb := in_ok (S := S) (m := m) (hd b (by simp)) hm (a := some (.tup [a, b, c]))
        have lc := in_ok (S := S) (m := m) (hd c (by simp)) hm (a := some (.tup [a, b, c]))
        have c2 : (1 : Nat) < lim := by decide
        have c22 : (2 : Nat) < lim := by decide
        have c0 : (0 : Nat) < lim := by decide
        have comp : mLc (mItems (mVar 0)) [2] (gNm 2) mYes (mAndV (mAp (gIsi ktB) (mCons (mVar 2) (mCons (mC (.ty "int")) mNil))) (mAndV (mNotV (mAp (gIsi ktB) (mCons (mVar 2) (mCons (mC (.ty "bool")) mNil)))) (mChain gLe gLt (mC (.int 0)) (mVar 2) (mAp G__law_top (mCons (mVar 1) mNil))))) [some (.tup [a, b, c]), some (.int m), none] S = .ok (.lst [.bl (labW a (top m)), .bl (labW b (top m)), .bl (labW c (top m))]) S := by
          simp only [mLc_eq, mItems_eq, mVar_0, ok_bind, mLcI_fix, wipeW, List.set_cons_succ, List.set_cons_zero, mLcL_cons, mLcT_eq, gNm_eq, nox_ok, mYes_eq, if_true, la, lb, lc, List.length_nil, List.length_cons, List.nil_append, List.cons_append, mLcL_nil, c0, c2, c22, Nat.zero_add, Nat.reduceAdd]
        cases ea : labW a (top m)
        · simp [-mLc_eq, G__law_tied, runB_eq, sh__law_tied, startW, e0, comp, tieB, truW, ea, gAll, blsW]
        · cases eb : labW b (top m)
          · simp [-mLc_eq, G__law_tied, runB_eq, sh__law_tied, startW, e0, comp, tieB, truW, ea, eb, gAll, blsW]
          · cases ec : labW c (top m)
            · simp [-mLc_eq, G__law_tied, runB_eq, sh__law_tied, startW, e0, comp, tieB, truW, ea, eb, ec, gAll, blsW]
            · obtain ⟨x, rfl, _⟩ := labW_int eb
              obtain ⟨y, rfl, _⟩ := labW_int ec
              simp [-mLc_eq, G__law_tied, runB_eq, sh__law_tied, startW, e0, comp, tieB, truW, ea, eb, ec, gAll, blsW, leW]
    · have hf : tieB (.tup ws) (top m) = false := by
        unfold tieB
        match ws, c3 with
        | [], _ => rfl
        | [_], _ => rfl
        | [_, _], _ => rfl
        | [_, _, _], c => exact absurd rfl c
        | _ :: _ :: _ :: _ :: _, _ => rfl
      have ne : ¬ ((ws.length : Int) = 3) := by omega
      simp [G__law_tied, runB_eq, sh__law_tied, startW, e0, hf, truW, ne]
  | _ => exact h.elim
/-! ### lists of ties -/
def kW (k : List Int) : W := .tup (k.map W.int)
theorem tieW_k (t : T3) : tieW t = kW (tieL t) := rfl
theorem eqv_ints : ∀ (a b : List Int), PyData.eqvAll (a.map .int) (b.map .int) = decide (a = b)
  | [], [] => rfl
  | [], _ :: _ => rfl
  | _ :: _, [] => rfl
  | x :: a, y :: b => by
    rw [List.map_cons, List.map_cons, PyData.eqvAll, PyData.eqv, eqv_ints a b, Bool.eq_iff_iff]
    simp
theorem eqv_tups : ∀ (a b : List (List Int)), PyData.eqvAll (a.map fun k => .tuple (k.map .int)) (b.map fun k => .tuple (k.map .int)) = decide (a = b)
  | [], [] => rfl
  | [], _ :: _ => rfl
  | _ :: _, [] => rfl
  | x :: a, y :: b => by
    rw [List.map_cons, List.map_cons, PyData.eqvAll, PyData.eqv, eqv_tups a b, eqv_ints, Bool.eq_iff_iff]
    simp
theorem toD_tups (ks : List (List Int)) : toDs (ks.map kW) = some (ks.map fun k => .tuple (k.map .int)) ∧ SeqAt.shaped (.list (ks.map fun k => .tuple (k.map .int))) = true := by
  have i1 : ∀ k : List Int, toDs (k.map W.int) = some (k.map PyData.int) := fun k => by
    induction k with
    | nil => rfl
    | cons x r ih => rw [List.map_cons, toDs, ih]; rfl
  have l1 : ∀ k : List Int, PyData.canLayAll0 (k.map PyData.int) = true := fun k => by
    induction k with
    | nil => rfl
    | cons x r ih => rw [List.map_cons, PyData.canLayAll0, ih]; rfl
  have d1 : ∀ k : List Int, PyData.depthAll (k.map PyData.int) ≤ 1 := fun k => by
    induction k with
    | nil => simp [PyData.depthAll]
    | cons x r ih => rw [List.map_cons, PyData.depthAll]; simp [PyData.depth]; omega
  refine ⟨?_, ?_⟩
  · induction ks with
    | nil => rfl
    | cons x r ih => rw [List.map_cons, toDs, ih, kW, toD, i1]; rfl
  · have l2 : PyData.canLayAll0 (ks.map fun k => .tuple (k.map .int)) = true := by
      induction ks with
      | nil => rfl
      | cons x r ih => rw [List.map_cons, PyData.canLayAll0, ih, PyData.canLay0, l1]; rfl
    have d2 : PyData.depthAll (ks.map fun k => .tuple (k.map .int)) ≤ 2 := by
      clear l2
      induction ks with
      | nil => simp [PyData.depthAll]
      | cons x r ih =>
        have := d1 x
        rw [List.map_cons, PyData.depthAll, PyData.depth]; omega
    unfold SeqAt.shaped
    rw [Bool.and_eq_true, decide_eq_true_eq, PyData.depth]
    exact ⟨l2, by omega⟩
theorem gEq_tups {n : Bool} {a b : List (List Int)} : gEq n (.lst (a.map kW)) (.lst (b.map kW)) S = .ok (.bl (xorB n (decide (a = b)))) S := by
  have e : ∀ a : List (List Int), toDT S (.lst (a.map kW)) = some (.list (a.map fun k => .tuple (k.map .int))) := fun a => by
    show toD (.lst _) = _
    rw [toD, (toD_tups a).1]
    rfl
  show (match toDT S _, toDT S _ with
    | some d, some e => if SeqAt.shaped d = true ∧ SeqAt.shaped e = true then Res.ok (W.bl (xorB n (PyData.eqv d e))) S else .bad
    | _, _ => .bad) = _
  rw [e, e]
  simp only [(toD_tups a).2, (toD_tups b).2, and_self, if_true, PyData.eqv, eqv_tups]
end

section
variable {S : Store} {w : W} {m : Nat} {us : List W} {ts : List T3}
theorem dat_tie (t : T3) : Dat2 (tieW t) := ⟨trivial, fun ws e => by
  cases e
  refine ⟨by simp, fun u hu => ?_⟩
  simp only [List.mem_cons, List.not_mem_nil, or_false] at hu
  rcases hu with rfl | rfl | rfl <;> exact trivial⟩
theorem all_comp {f : Fn} (hf : ∀ u, u ∈ us → f [u, .int m] S = .ok (.bl (tieB u (top m))) S) (hl : us.length ≤ 64) {a : Option W} : mLc (mItems (mVar 0)) [2] (gNm 2) mYes (mAp f (mCons (mVar 2) (mCons (mVar 1) mNil))) [some (.tup us), some (.int m), none] S = .ok (.lst (us.map fun u => .bl (tieB u (top m)))) S := by
  have ht : turns = 100000 := rfl
  have lc := lcI_fp (S := S) (it := .fix us) (g := gNm 2) (t := mYes) (e := mAp f (mCons (mVar 2) (mCons (mVar 1) mNil))) (s0 := [some (.tup us), some (.int m), none]) (fun _ => true) (fun u => .bl (tieB u (top m))) rfl (by omega) (fun u hu => ⟨[some (.tup us), some (.int m), some u], by simp, rfl, fun _ => by simp [hf u hu]⟩)
  have filt : (us.filter fun _ => true) = us := List.filter_eq_self.mpr fun _ _ => rfl
  rw [filt] at lc
  simp only [mLc_eq, mItems_eq, mVar_0, ok_bind, wipeW, List.set_cons_succ, List.set_cons_zero, lc]
theorem all_bl (us : List W) (p : W → Bool) : gAll (.lst (us.map fun u => .bl (p u))) S = .ok (.bl (us.all p)) S := by
  have bs := blsW_map p us
  simp only [gAll, seqL_lst, Option.bind_some, bs, List.all_map]
  rfl
theorem labs {t : T3} {c : Int} (h : tieB (tieW t) c = true) : (0 ≤ t.1 ∧ t.1 < c) ∧ (0 ≤ t.2.1 ∧ t.2.1 < c) ∧ (0 ≤ t.2.2 ∧ t.2.2 < c) ∧ t.2.1 ≤ t.2.2 := by
  simp only [tieB, tieW, labW, leW, Bool.and_eq_true, decide_eq_true_eq] at h
  exact ⟨h.1.1, h.1.2.1, h.1.2.2, h.2⟩
theorem top8 (m : Nat) : top m ≤ 8 := by
  match m with
  | 0 => decide
  | 1 => decide
  | 2 => decide
  | _ + 3 => exact Int.le_refl 8
theorem fine_all {c : Int} (hc : c ≤ 8) (h : ts.all (fun t => tieB (tieW t) c) = true) : Fine ts := by
  rw [List.all_eq_true] at h
  exact ⟨fun t m => by
    have := labs (h t m)
    exact ⟨mem8.mpr (by omega), mem8.mpr (by omega)⟩, fun t m => by have := labs (h t m); omega⟩
def ordB (ts : List T3) : Bool := decide (ts.map tieL = usrt lexL (ts.map tieL))
def areB (ts : List T3) (c : Int) : Bool := decide (1 ≤ ts.length) && decide (ts.length ≤ 12) && ts.all (fun t => tieB (tieW t) c) && (ordB ts && hangB ts)
theorem srtset_ties {w : W} (hw : seqL S w = some (ts.map tieW)) (hn : ts.length < 64) (h : Fine ts) : gSrtSet w S = .ok (.lst ((usrt lexL (ts.map tieL)).map kW)) S := by
  unfold gSrtSet
  simp only [hw, List.length_map, hn, if_true]
  cases ts with
  | nil => rfl
  | cons t r =>
    have : intsW ((t :: r).map tieW) = none := rfl
    simp only [this, tupsW_ties]
    rw [if_pos (shape_ties h.nn)]
    rfl
theorem srtsetT_ties (hn : ts.length < 64) (h : Fine ts) : gSrtSetT (.tup (ts.map tieW)) S = .ok (.lst ((usrt lexL (ts.map tieL)).map kW)) S := by
  simp only [gSrtSetT, tupL, List.length_map, hn, if_true, tupsW_ties]
  rw [if_pos (shape_ties h.nn)]
  rfl
theorem map_kW : ts.map tieW = (ts.map tieL).map kW := by
  rw [List.map_map]
  rfl
theorem are_ties_A (hm : m < 4) (hn : ts.length ≤ 40) : G_are_ties [.tup (ts.map tieW), .int m] S = .ok (.bl (areB ts (top m))) S := by
  have e0 := isi (w := .tup (ts.map tieW)) (t := "tuple") (x := "tuple") (b := true) (T := S) rfl rfl
  have comp := all_comp (S := S) (us := ts.map tieW) (m := m) (f := G_is_tie) (fun u hu => by
    obtain ⟨t, _, rfl⟩ := List.mem_map.mp hu
    exact is_tie_ok (dat_tie t) hm) (by rw [List.length_map]; omega) (a := none)
  have hall := all_bl (S := S) (ts.map tieW) (fun u => tieB u (top m))
  rw [List.all_map] at hall
  generalize (ts.map tieW).map (fun u => W.bl (tieB u (top m))) = L at comp hall
  unfold areB
  by_cases c1 : 1 ≤ ts.length
  · by_cases c2 : ts.length ≤ 12
    · cases c3 : ts.all (fun t => tieB (tieW t) (top m))
      · have c3' : ts.all ((fun u => tieB u (top m)) ∘ tieW) = false := c3
        rw [c3'] at hall
        simp [-mLc_eq, G_are_ties, runB_eq, sh_are_ties, startW, e0, truW, c_MOST_TIES, show (1 : Int) ≤ (ts.length : Int) from by omega, show (ts.length : Int) ≤ 12 from by omega, comp, hall]
      · have c3' : ts.all ((fun u => tieB u (top m)) ∘ tieW) = true := c3
        rw [c3'] at hall
        have hF := fine_all (top8 m) c3
        have hs := srtset_ties (S := S) (w := .lst (ts.map tieW)) rfl (by omega) hF
        have hh := hang_ok (S := S) (w := .tup (ts.map tieW)) (ts := ts) (.inr (.inr (.inl rfl))) (by omega) hF.inl
        have he : gEq false (.lst (ts.map tieW)) (.lst ((usrt lexL (ts.map tieL)).map kW)) S = .ok (.bl (ordB ts)) S := by
          rw [map_kW, gEq_tups, xorB_f]
          rfl
        cases c4 : ordB ts <;> rw [c4] at he <;>
        simp [-mLc_eq, G_are_ties, runB_eq, sh_are_ties, startW, e0, truW, c_MOST_TIES, c1, c2, show (1 : Int) ≤ (ts.length : Int) from by omega, show (ts.length : Int) ≤ 12 from by omega, comp, hall, hs, he, hh]
    · simp [-mLc_eq, G_are_ties, runB_eq, sh_are_ties, startW, e0, truW, c_MOST_TIES, c2, show (1 : Int) ≤ (ts.length : Int) from by omega, show ¬ (ts.length : Int) ≤ 12 from by omega]
  · simp [-mLc_eq, G_are_ties, runB_eq, sh_are_ties, startW, e0, truW, c_MOST_TIES, c1, show ¬ (1 : Int) ≤ (ts.length : Int) from by omega]
theorem are_ties_B : G_are_ties [.lst us, .int m] S = .ok (.bl false) S := by
  have e0 := isi (w := .lst us) (t := "list") (x := "tuple") (b := false) (T := S) rfl rfl
  simp [-mLc_eq, G_are_ties, runB_eq, sh_are_ties, startW, e0, truW]
theorem are_ties_C (hm : m < 4) (hn : ts.length ≤ 40) : G_are_ties [.tup (ts.map tieW ++ [.non]), .int m] S = .ok (.bl false) S := by
  have e0 := isi (w := .tup (ts.map tieW ++ [.non])) (t := "tuple") (x := "tuple") (b := true) (T := S) rfl rfl
  have comp := all_comp (S := S) (us := ts.map tieW ++ [.non]) (m := m) (f := G_is_tie) (fun u hu => by
    rcases List.mem_append.mp hu with hu | hu
    · obtain ⟨t, _, rfl⟩ := List.mem_map.mp hu
      exact is_tie_ok (dat_tie t) hm
    · rw [List.mem_singleton.mp hu]
      exact is_tie_ok ⟨trivial, nofun⟩ hm) (by rw [List.length_append, List.length_map, List.length_singleton]; omega) (a := none)
  have hall := all_bl (S := S) (ts.map tieW ++ [.non]) (fun u => tieB u (top m))
  have hff : ((ts.map tieW ++ [W.non]).all fun u => tieB u (top m)) = false := by
    rw [List.all_append]
    simp [tieB]
  rw [hff] at hall
  generalize (ts.map tieW ++ [W.non]).map (fun u => W.bl (tieB u (top m))) = L at comp hall
  generalize hus : ts.map tieW ++ [W.non] = us at *
  by_cases c1 : (1 : Int) ≤ (us.length : Int) <;> by_cases c2 : (us.length : Int) ≤ 12 <;>
    simp [-mLc_eq, G_are_ties, runB_eq, sh_are_ties, startW, e0, truW, c_MOST_TIES, c1, c2, comp, hall]
end
end Dk11
end

section
set_option maxRecDepth 100000
set_option maxHeartbeats 4000000
namespace Dk11
open PySem PySem.Spec L2 RL LC LT MT OrdX
open PyProof.Rows hiding St
section
variable {S : Store} {t0 : T3} {r0 : List T3}
def tieOf : W → T3
  | .tup [.int a, .int b, .int c] => (a, b, c)
  | _ => (0, 0, 0)
theorem tieOf_tie (t : T3) : tieOf (tieW t) = t := rfl
def joinB (ts : List T3) : Bool := match ts with
  | [] => true
  | t0 :: r => (t0 :: r).all fun t => decide (t.2.1 ∈ joined (t0 :: r) t0)
theorem join_hang {ts : List T3} (h : Fine ts) : joinB ts = hangB ts := by
  cases ts with
  | nil => rfl
  | cons t0 r =>
    unfold joinB hangB
    refine List.all_congr rfl ?_ |>.trans rfl <;> intro t
    have := reach_uniq (joined_ok (t0 := t0) (r := r)) (reach_ok h.inl (h.inl t0 List.mem_cons_self).1) t.2.1
    rw [decide_eq_decide]
    exact this
theorem joined_len (ts : List T3) (f : List Int) : (sweep2 ts f).length ≤ f.length + 2 * ts.length := by
  induction ts generalizing f with
  | nil => exact Nat.le_refl _
  | cons t r ih =>
    have h1 := ih (step2 f t)
    have h2 : (step2 f t).length ≤ f.length + 2 := by
      unfold step2
      split
      · simp
      · omega
    show (sweep2 r (step2 f t)).length ≤ _
    rw [List.length_cons]
    omega
theorem law_joined_at {w : W} {ts : List T3} {t0 : T3} (h : Seq S w (ts.map tieW)) (h0 : ts[0]? = some t0) (hn : ts.length ≤ 40) : G__law_joined [w] S = .ok (.bl (ts.all fun t => decide (t.2.1 ∈ iter (sweep2 ts) ts.length [t0.2.1, t0.2.2]))) S := by
  have ht : turns = 100000 := rfl
  have hlim : lim = 16777216 := rfl
  have ix0 : gIx w (.int 0) S = .ok (tieW t0) S := ix_seq h (by
    rw [RL.atI_nat (Int.le_refl 0), List.getElem?_map, show (0 : Int).toNat = 0 from rfl, h0]
    rfl)
  have sl : gSl (tieW t0) (some 1) none S = .ok (.tup [.int t0.2.1, .int t0.2.2]) S := by simp [tieW, cutW, HT.sIx]
  obtain ⟨n, hn1⟩ : ∃ n : Int, n = (ts.length : Int) := ⟨_, rfl⟩
  have hlen : gLen w S = .ok (.int n) S := by
    have := len_seq h
    rw [List.length_map] at this
    rw [this, hn1]
  have okn : okR n = true := by rw [hn1]; simp [okR]; omega
  obtain ⟨R, hR⟩ : ∃ R : List W, R = rngW 0 n.toNat := ⟨_, rfl⟩
  have hRl : R.length = ts.length := by rw [hR, hn1]; simp [rngW]
  refine Ev.eq ?_
  simp only [G__law_joined, runB_eq, sh__law_joined, startW, mSeq_eq, mAsg_eq, mAp_eq, mCons_eq, mNil_eq, mVar_0, mVar_s, mC_eq, mBin_eq, ok_bind, gNm_eq, ev_bind, ev_ok, List.map_cons, List.map_nil, List.length_cons, List.length_nil, List.replicate, List.cons_append, List.nil_append, List.set_cons_succ, List.set_cons_zero, seqK_nx, ix0, mSl_eq, mPart_eq, mNoPart_eq, sl, g1_eq, gListOf_tup, mFor_eq, mRange1_eq, hlen, rng1_eq, okn, if_true, mForI_fix, ← hR]
  refine Ev.mono (forL_ev (fun r e T => T = S ∧ ∃ (f : List Int) (o2 o3 o4 o5 : Option W), e = [some w, some (.lst (f.map .int)), o2, o3, o4, o5, none] ∧ f.length + 2 * (ts.length * r.length) ≤ 4000 ∧ iter (sweep2 ts) r.length f = iter (sweep2 ts) ts.length [t0.2.1, t0.2.2]) ?_ _ _ _ ⟨rfl, [t0.2.1, t0.2.2], none, none, none, none, rfl, ?_, by rw [hRl]⟩) ?_
  · rintro u r e T ⟨rfl, f, o2, o3, o4, o5, rfl, hl, hi⟩
    rw [List.length_cons, Nat.mul_succ] at hl
    obtain ⟨it, e1, e2⟩ := items_seq (s := [some w, some (.lst (f.map .int)), some u, o3, o4, o5, none]) (ma := mVar 0) h rfl
    simp only [gNm_eq, ev_ok, List.set_cons_succ, List.set_cons_zero, mFor_eq, e1, ok_bind]
    refine Ev.mono (forI_ev (ws := ts.map tieW) (fun r' e T' => T' = T ∧ ∃ (rs : List T3) (f1 : List Int) (o3 o4 o5 : Option W), r' = rs.map tieW ∧ e = [some w, some (.lst (f1.map .int)), some u, o3, o4, o5, none] ∧ f1.length + 2 * rs.length ≤ f.length + 2 * ts.length ∧ sweep2 rs f1 = sweep2 ts f) (fun r e T' q => by rw [q.1]; exact e2) (by rw [List.length_map, ht]; omega) ?_ ⟨rfl, ts, f, o3, o4, o5, rfl, rfl, Nat.le_refl _, rfl⟩) ?_
    · rintro v r' e T' ⟨rfl, rs, f1, o3, o4, o5, hr, rfl, hl1, hsw⟩
      cases rs with
      | nil => cases hr
      | cons t rs =>
        rw [List.map_cons, List.cons.injEq] at hr
        obtain ⟨rfl, rfl⟩ := hr
        rw [List.length_cons] at hl1
        have i1 : ∀ T x, gIn false (.int x) (.lst (f1.map .int)) T = .ok (.bl (decide (x ∈ f1))) T := fun T x => by rw [gIn_ints (ys := f1) rfl, xorB_f]
        refine Ev.of (a := [some w, some (.lst (f1.map .int)), some u, some (.int t.1), some (.int t.2.1), some (.int t.2.2), none]) (S := T') (by simp [tieW]) (Ev.of (a := (.nx, [some w, some (.lst ((step2 f1 t).map .int)), some u, some (.int t.1), some (.int t.2.1), some (.int t.2.2), none])) (S := T') ?_ ⟨rfl, rfl, rs, step2 f1 t, _, _, _, rfl, rfl, ?_, hsw⟩)
        · unfold step2
          by_cases m1 : t.2.1 ∈ f1
          · simp [i1, m1, show f1.length + 2 ≤ lim by omega]
          · by_cases m2 : t.2.2 ∈ f1
            · simp [i1, m1, m2, show f1.length + 2 ≤ lim by omega]
            · simp [i1, m1, m2]
        · unfold step2
          split
          · rw [List.length_append, List.length_cons, List.length_singleton]; omega
          · omega
    · rintro p T' ⟨hp, rfl, rs, f1, o3, o4, o5, hr, he, hl1, hsw⟩
      obtain ⟨fl, e⟩ := p
      cases hp
      dsimp only at he
      subst he
      cases rs with
      | cons t rs => cases hr
      | nil =>
        refine ⟨rfl, rfl, f1, _, _, _, _, rfl, ?_, by rw [← hi]; show iter (sweep2 ts) r.length f1 = _; rw [show f1 = sweep2 ts f from hsw]; rfl⟩
        rw [List.length_nil] at hl1
        omega
  · rw [hRl, List.length_cons, List.length_singleton]
    have : ts.length * ts.length ≤ 40 * 40 := Nat.mul_le_mul hn hn
    omega
  · rintro p T ⟨hp, rfl, f, o2, o3, o4, o5, he, hl, hi⟩
    obtain ⟨fl, e⟩ := p
    cases hp
    dsimp only at he
    subst he
    have hi : f = iter (sweep2 ts) ts.length [t0.2.1, t0.2.2] := hi
    rw [← hi]
    obtain ⟨it, e1, e2⟩ := items_seq (s := [some w, some (.lst (f.map .int)), o2, o3, o4, o5, none]) (ma := mVar 0) h rfl
    have lc := lcI_fp (S := T) (it := it) (g := gNm 6) (t := mYes) (e := mBin (gIn false) (mBin gIx (mVar 6) (mC (.int 1))) (mVar 1)) (s0 := [some w, some (.lst (f.map .int)), o2, o3, o4, o5, none]) (fun _ => true) (fun u => .bl (decide ((tieOf u).2.1 ∈ f))) e2 (by rw [List.length_map]; omega) (fun u hu => by
      obtain ⟨t, _, rfl⟩ := List.mem_map.mp hu
      have i1 : gIn false (.int t.2.1) (.lst (f.map .int)) T = .ok (.bl (decide (t.2.1 ∈ f))) T := by rw [gIn_ints (ys := f) rfl, xorB_f]
      exact ⟨[some w, some (.lst (f.map .int)), o2, o3, o4, o5, some (tieW t)], by simp, rfl, fun _ => by rw [tieOf_tie]; simp [tieW, i1]⟩)
    have filt : ((ts.map tieW).filter fun _ => true) = ts.map tieW := List.filter_eq_self.mpr fun _ _ => rfl
    rw [filt] at lc
    have ha := all_bl (S := T) (ts.map tieW) (fun u => decide ((tieOf u).2.1 ∈ f))
    rw [List.all_map] at ha
    generalize (ts.map tieW).map (fun u => W.bl (decide ((tieOf u).2.1 ∈ f))) = L at lc ha
    simp only [seqK_nx, mRet_eq, mAp_eq, mCons_eq, mLc_eq, e1, ok_bind, wipeW, List.set_cons_succ, List.set_cons_zero, lc, mNil_eq, g1_eq, ha, runK_rt, ev_ok]
    exact ⟨rfl, trivial⟩
theorem law_joined_ok {ts : List T3} (h1 : 1 ≤ ts.length) (hn : ts.length ≤ 40) : G__law_joined [.tup (ts.map tieW)] S = .ok (.bl (joinB ts)) S := by
  cases ts with
  | nil => simp at h1
  | cons t0 r => exact law_joined_at (.inr (.inr (.inl rfl))) rfl hn
end
end Dk11
end

section
set_option maxRecDepth 100000
set_option maxHeartbeats 4000000
namespace Dk11
open PySem PySem.Spec L2 RL LC LT MT OrdX
open PyProof.Rows hiding St
section
variable {S : Store} {m : Nat} {a b c : W} {ts : List T3}
/-- both say the same of it -/
def Agree (m : Nat) (S : Store) (k : W) : Prop := ∃ v, G_is_kind [k, .int m] S = .ok (.bl v) S ∧ G__law_kindly [k, .int m] S = .ok (.bl v) S
theorem dat3 (ha : Dat a) (hb : Dat b) (hc : Dat c) : Dat2 (.tup [a, b, c]) := ⟨trivial, fun ws e => by
  cases e
  refine ⟨by simp, fun u hu => ?_⟩
  simp only [List.mem_cons, List.not_mem_nil, or_false] at hu
  rcases hu with rfl | rfl | rfl <;> assumption⟩
theorem top1 (m : Nat) : 1 ≤ top m := by
  match m with
  | 0 => decide
  | 1 => decide
  | 2 => decide
  | _ + 3 => exact (by decide : (1 : Int) ≤ 8)
theorem datI (i : Int) : Dat (.int i) := trivial
theorem tied0 (ha : Dat a) (hm : m < 4) : G__law_tied [.tup [a, .int 0, .int 0], .int m] S = .ok (.bl (labW a (top m))) S := by
  rw [law_tied_ok (dat3 ha (datI 0) (datI 0)) hm]
  have := top1 m
  simp [tieB, labW, leW, show (0 : Int) < top m from by omega]
theorem isTup (ws : List W) : gIsi ktB [.tup ws, .ty "tuple"] S = .ok (.bl true) S := isi (t := "tuple") rfl rfl
theorem isStr (x : Str) : gIsi ktB [.str x, .ty "str"] S = .ok (.bl true) S := isi (t := "str") rfl rfl
def four : List Str := ["face", "border", "dot", "point"]
theorem in4 (x : Str) : gIn true (.str x) (.lst [.str "face", .str "border", .str "dot", .str "point"]) S = .ok (.bl (!decide (x ∈ four))) S := by
  rw [gIn_strs (ys := four) rfl, xorB_t]
theorem agree_face (ha : Dat a) (hm : m < 4) : Agree m S (.tup [.str "face", a]) := by
  refine ⟨labW a (top m), ?_, ?_⟩
  · simp [G_is_kind, runB_eq, sh_is_kind, startW, isTup, isStr, truW, lit_tx, is_label_ok ha hm]
  · have i4 := in4 (S := S) "face"
    simp [lit_tx, four] at i4
    have e1 : cutW [W.str (tx [102, 97, 99, 101]), a] (some 1) none = [a] := rfl
    simp [G__law_kindly, runB_eq, sh__law_kindly, startW, isTup, truW, lit_tx, i4, e1, wipeW, tied0 ha hm, gAll, blsW]
theorem agree_face3 (ha : Dat a) (hm : m < 4) : Agree m S (.tup [.str "face", a, .int 0]) := by
  refine ⟨false, ?_, ?_⟩
  · simp [G_is_kind, runB_eq, sh_is_kind, startW, isTup, isStr, truW, lit_tx]
  · have i4 := in4 (S := S) "face"
    simp [lit_tx, four] at i4
    simp [G__law_kindly, runB_eq, sh__law_kindly, startW, isTup, truW, lit_tx, i4]
theorem agree_border (ha : Dat a) (hb : Dat b) (hc : Dat c) (hm : m < 4) : Agree m S (.tup [.str "border", a, b, c]) := by
  have e1 : cutW [W.str (tx [98, 111, 114, 100, 101, 114]), a, b, c] (some 1) none = [a, b, c] := rfl
  refine ⟨tieB (.tup [a, b, c]) (top m), ?_, ?_⟩
  · simp [G_is_kind, runB_eq, sh_is_kind, startW, isTup, isStr, truW, lit_tx, e1, is_tie_ok (dat3 ha hb hc) hm]
  · have i4 := in4 (S := S) "border"
    simp [lit_tx, four] at i4
    simp [G__law_kindly, runB_eq, sh__law_kindly, startW, isTup, truW, lit_tx, i4, e1, law_tied_ok (dat3 ha hb hc) hm]
theorem agree_dot (ha : Dat a) (hb : Dat b) (hm : m < 4) : Agree m S (.tup [.str "dot", a, b]) := by
  have e1 : cutW [W.str (tx [100, 111, 116]), a, b] (some 1) none = [a, b] := rfl
  refine ⟨labW a (top m) && labW b (top m), ?_, ?_⟩
  · cases h : labW a (top m) <;> simp [G_is_kind, runB_eq, sh_is_kind, startW, isTup, isStr, truW, lit_tx, is_label_ok ha hm, is_label_ok hb hm, h]
  · have i4 := in4 (S := S) "dot"
    simp [lit_tx, four] at i4
    simp [G__law_kindly, runB_eq, sh__law_kindly, startW, isTup, truW, lit_tx, i4, e1, wipeW, tied0 ha hm, tied0 hb hm, gAll, blsW]
theorem agree_dot2 (ha : Dat a) (hm : m < 4) : Agree m S (.tup [.str "dot", a]) := by
  refine ⟨false, ?_, ?_⟩
  · simp [G_is_kind, runB_eq, sh_is_kind, startW, isTup, isStr, truW, lit_tx]
  · have i4 := in4 (S := S) "dot"
    simp [lit_tx, four] at i4
    simp [G__law_kindly, runB_eq, sh__law_kindly, startW, isTup, truW, lit_tx, i4]
theorem agree_Face : Agree m S (.tup [.str "Face", .int 0]) := by
  refine ⟨false, ?_, ?_⟩
  · simp [G_is_kind, runB_eq, sh_is_kind, startW, isTup, isStr, truW, lit_tx]
  · have i4 := in4 (S := S) "Face"
    simp [lit_tx, four] at i4
    simp [G__law_kindly, runB_eq, sh__law_kindly, startW, isTup, truW, lit_tx, i4]
theorem agree_00 : Agree m S (.tup [.int 0, .int 0]) := by
  refine ⟨false, ?_, ?_⟩
  · simp [G_is_kind, runB_eq, sh_is_kind, startW, isTup, isi (w := .int 0) (t := "int") (x := "str") (b := false) (T := S) rfl rfl, truW]
  · have i4 : gIn true (.int 0) (.lst [.str "face", .str "border", .str "dot", .str "point"]) S = .ok (.bl true) S := by simp [gIn, tupL, flatW, inW, eqF]
    simp [G__law_kindly, runB_eq, sh__law_kindly, startW, isTup, truW, i4]
theorem agree_empty : Agree m S (.tup []) := by
  refine ⟨false, ?_, ?_⟩
  · simp [G_is_kind, runB_eq, sh_is_kind, startW, isTup, truW]
  · simp [G__law_kindly, runB_eq, sh__law_kindly, startW, isTup, truW]
theorem agree_lst {ws : List W} : Agree m S (.lst ws) := by
  have e := isi (w := .lst ws) (t := "list") (x := "tuple") (b := false) (T := S) rfl rfl
  exact ⟨false, by simp [G_is_kind, runB_eq, sh_is_kind, startW, e, truW], by simp [G__law_kindly, runB_eq, sh__law_kindly, startW, e, truW]⟩
theorem agree_non : Agree m S .non := by
  have e := isi (w := .non) (t := "NoneType") (x := "tuple") (b := false) (T := S) rfl rfl
  exact ⟨false, by simp [G_is_kind, runB_eq, sh_is_kind, startW, e, truW], by simp [G__law_kindly, runB_eq, sh__law_kindly, startW, e, truW]⟩
theorem agree_str {x : Str} : Agree m S (.str x) := by
  have e := isi (w := .str x) (t := "str") (x := "tuple") (b := false) (T := S) rfl rfl
  exact ⟨false, by simp [G_is_kind, runB_eq, sh_is_kind, startW, e, truW], by simp [G__law_kindly, runB_eq, sh__law_kindly, startW, e, truW]⟩
theorem agree_point2 (ha : Dat a) (hm : m < 4) : Agree m S (.tup [.str "point", a]) := by
  refine ⟨false, ?_, ?_⟩
  · simp [G_is_kind, runB_eq, sh_is_kind, startW, isTup, isStr, truW, lit_tx]
  · have i4 := in4 (S := S) "point"
    simp [lit_tx, four] at i4
    simp [G__law_kindly, runB_eq, sh__law_kindly, startW, isTup, truW, lit_tx, i4]
theorem tied_comp {us : List W} (hd : ∀ u, u ∈ us → Dat2 u) (hl : us.length ≤ 64) (hm : m < 4) {k g : Option W} : mLcL (gNm 4) mYes (mAp G__law_tied (mCons (mVar 4) (mCons (mVar 1) mNil))) [k, some (.int m), g, none, none] us [] S = .ok (us.map fun u => .bl (tieB u (top m))) S := by
  rw [lcL_pure (fun u => .bl (tieB u (top m))) us [] (by show _ ≤ 16777216; simp; omega) (fun u hu => ⟨[k, some (.int m), g, none, some u], by simp, by simp [law_tied_ok (hd u hu) hm]⟩)]
  rfl
theorem agree_pointA (ha : Dat a) (hm : m < 4) (hn : ts.length ≤ 40) : Agree m S (.tup [.str "point", a, .tup (ts.map tieW)]) := by
  have hA := are_ties_A (S := S) hm hn
  have i4 := in4 (S := S) "point"
  simp [lit_tx, four] at i4
  have comp := fun k g => tied_comp (S := S) (us := ts.map tieW) (fun u hu => by
    obtain ⟨t, _, rfl⟩ := List.mem_map.mp hu
    exact dat_tie t) (by rw [List.length_map]; omega) hm (k := k) (g := g)
  have hall := all_bl (S := S) (ts.map tieW) (fun u => tieB u (top m))
  rw [List.all_map] at hall
  have hus : (ts.map tieW).length = ts.length := List.length_map ..
  have hT := isTup (S := S) (ts.map tieW)
  have hlo : gListOf (.tup (ts.map tieW)) S = .ok (.lst (ts.map tieW)) S := rfl
  have hord : ts.length < 64 → Fine ts → gSrtSetT (.tup (ts.map tieW)) S = .ok (.lst ((usrt lexL (ts.map tieL)).map kW)) S := srtsetT_ties
  have hjo : 1 ≤ ts.length → G__law_joined [.tup (ts.map tieW)] S = .ok (.bl (joinB ts)) S := fun h => law_joined_ok h hn
  have he : gEq false (.lst (ts.map tieW)) (.lst ((usrt lexL (ts.map tieL)).map kW)) S = .ok (.bl (ordB ts)) S := by
    rw [map_kW, gEq_tups, xorB_f]
    rfl
  refine ⟨labW a (top m) && areB ts (top m), ?_, ?_⟩
  · generalize ts.map tieW = us at hA
    cases h : labW a (top m) <;> simp [G_is_kind, runB_eq, sh_is_kind, startW, isTup, isStr, truW, lit_tx, is_label_ok ha hm, h, hA]
  · generalize (ts.map tieW).map (fun u => W.bl (tieB u (top m))) = L at comp hall
    generalize ts.map tieW = us at comp hall hus hT hlo hord hjo he
    generalize (usrt lexL (ts.map tieL)).map kW = ord at hord he
    unfold areB
    cases h : labW a (top m)
    · simp [G__law_kindly, runB_eq, sh__law_kindly, startW, isTup, truW, lit_tx, i4, tied0 ha hm, h]
    · by_cases c1 : 1 ≤ ts.length
      · have d1 : (1 : Int) ≤ (us.length : Int) := by omega
        by_cases c2 : ts.length ≤ 12
        · have d2 : (us.length : Int) ≤ 12 := by omega
          cases c3 : ts.all (fun t => tieB (tieW t) (top m))
          · have c3' : ts.all ((fun u => tieB u (top m)) ∘ tieW) = false := c3
            rw [c3'] at hall
            simp [G__law_kindly, runB_eq, sh__law_kindly, startW, isTup, truW, lit_tx, i4, tied0 ha hm, h, d1, d2, c1, c2, wipeW, comp, hall, hT]
          · have c3' : ts.all ((fun u => tieB u (top m)) ∘ tieW) = true := c3
            rw [c3'] at hall
            have hF := fine_all (top8 m) c3
            have e1 := hord (by omega) hF
            have e2 := hjo c1
            rw [join_hang hF] at e2
            cases c4 : ordB ts <;> rw [c4] at he <;>
              simp [G__law_kindly, runB_eq, sh__law_kindly, startW, isTup, truW, lit_tx, i4, tied0 ha hm, h, d1, d2, c1, c2, wipeW, comp, hall, hT, e1, e2, he, hlo]
        · simp [G__law_kindly, runB_eq, sh__law_kindly, startW, isTup, truW, lit_tx, i4, tied0 ha hm, h, d1, c1, c2, show ¬ (us.length : Int) ≤ 12 by omega, hT]
      · simp [G__law_kindly, runB_eq, sh__law_kindly, startW, isTup, truW, lit_tx, i4, tied0 ha hm, h, c1, show ¬ (1 : Int) ≤ (us.length : Int) by omega, hT]
theorem agree_pointB (ha : Dat a) (hm : m < 4) {us : List W} : Agree m S (.tup [.str "point", a, .lst us]) := by
  have i4 := in4 (S := S) "point"
  simp [lit_tx, four] at i4
  have e := isi (w := .lst us) (t := "list") (x := "tuple") (b := false) (T := S) rfl rfl
  refine ⟨false, ?_, ?_⟩
  · cases h : labW a (top m) <;> simp [G_is_kind, runB_eq, sh_is_kind, startW, isTup, isStr, truW, lit_tx, is_label_ok ha hm, h, are_ties_B]
  · cases h : labW a (top m) <;> simp [G__law_kindly, runB_eq, sh__law_kindly, startW, isTup, truW, lit_tx, i4, tied0 ha hm, h, e]
theorem agree_pointC (ha : Dat a) (hm : m < 4) (hn : ts.length ≤ 40) : Agree m S (.tup [.str "point", a, .tup (ts.map tieW ++ [.non])]) := by
  have hA := are_ties_C (S := S) hm hn
  have i4 := in4 (S := S) "point"
  simp [lit_tx, four] at i4
  have comp := fun k g => tied_comp (S := S) (us := ts.map tieW ++ [.non]) (fun u hu => by
    rcases List.mem_append.mp hu with hu | hu
    · obtain ⟨t, _, rfl⟩ := List.mem_map.mp hu
      exact dat_tie t
    · rw [List.mem_singleton.mp hu]
      exact ⟨trivial, nofun⟩) (by rw [List.length_append, List.length_map, List.length_singleton]; omega) hm (k := k) (g := g)
  have hall := all_bl (S := S) (ts.map tieW ++ [.non]) (fun u => tieB u (top m))
  have hff : ((ts.map tieW ++ [W.non]).all fun u => tieB u (top m)) = false := by
    rw [List.all_append]
    simp [tieB]
  rw [hff] at hall
  generalize (ts.map tieW ++ [W.non]).map (fun u => W.bl (tieB u (top m))) = L at comp hall
  have hT := isTup (S := S) (ts.map tieW ++ [W.non])
  generalize ts.map tieW ++ [W.non] = us at *
  refine ⟨false, ?_, ?_⟩
  · cases h : labW a (top m) <;> simp [G_is_kind, runB_eq, sh_is_kind, startW, isTup, isStr, truW, lit_tx, is_label_ok ha hm, h, hA]
  · cases h : labW a (top m) <;> by_cases c1 : (1 : Int) ≤ (us.length : Int) <;> by_cases c2 : (us.length : Int) ≤ 12 <;> simp [G__law_kindly, runB_eq, sh__law_kindly, startW, isTup, truW, lit_tx, i4, tied0 ha hm, h, c1, c2, wipeW, comp, hall, hT]
end
end Dk11
end

section
set_option maxRecDepth 100000
set_option maxHeartbeats 4000000
namespace Dk11
open PySem PySem.Spec L2 RL LC LT MT OrdX
open PyProof.Rows hiding St
/-- a goal that is not to be computed -/
structure Hid (p : Prop) : Prop where
  h : p
def TurnJ (sc : W) (e : Env') (T : Store) : Prop := ∃ (b : Bag) (o2 o4 o5 o6 o7 o8 o9 : Option W), T[0]? = some (Bag.ob b) ∧ Bag.Ok b ∧ e = [some sc, some (.ref 0), o2, none, o4, o5, o6, o7, o8, o9, none, none, none]
theorem st_get {T : Store} {b b' : Bag} (h : T[0]? = some (Bag.ob b)) : (T.set 0 (Bag.ob b'))[0]? = some b'.ob := List.getElem?_set_self (get_len h)
/-- a row: two labels in order -/
def rowW (p : Int × Int) : W := .lst [.int p.1, .int p.2]
def rowOk (c : Int) (p : Int × Int) : Prop := 0 ≤ p.1 ∧ p.1 ≤ p.2 ∧ p.2 < c
theorem sort2 {x y c : Int} (h1 : 0 ≤ x ∧ x < c) (h2 : 0 ≤ y ∧ y < c) (S : Store) : ∃ p, rowOk c p ∧ gSorted (.lst [.int x, .int y]) S = .ok (rowW p) S := by
  by_cases h : y < x
  · exact ⟨(y, x), ⟨h2.1, by dsimp; omega, h1.2⟩, by simp [gSorted, intsW, srt, insS, ltI, h, rowW]⟩
  · exact ⟨(x, y), ⟨h1.1, by dsimp; omega, h2.2⟩, by simp [gSorted, intsW, srt, insS, ltI, h, rowW]⟩
theorem insU_len {α : Type} (lt : α → α → Bool) (x : α) : ∀ l : List α, (insU lt x l).length ≤ l.length + 1
  | [] => Nat.le_refl _
  | y :: r => by
    have := insU_len lt x r
    unfold insU
    split
    · rw [List.length_cons, List.length_cons]; omega
    · split
      · simp
      · simp
theorem usrt_len {α : Type} (lt : α → α → Bool) : ∀ l : List α, (usrt lt l).length ≤ l.length
  | [] => Nat.le_refl _
  | x :: r => by
    have h1 := usrt_len lt r
    have h2 := insU_len lt x (usrt lt r)
    rw [usrt, List.length_cons]
    omega
theorem of_tieL : ∀ {ks : List (List Int)}, (∀ k, k ∈ ks → ∃ t : T3, k = tieL t) → ∃ gs : List T3, ks = gs.map tieL
  | [], _ => ⟨[], rfl⟩
  | k :: r, h => by
    obtain ⟨t, rfl⟩ := h k List.mem_cons_self
    obtain ⟨gs, rfl⟩ := of_tieL fun k m => h k (List.mem_cons_of_mem _ m)
    exact ⟨t :: gs, rfl⟩
theorem sorted_as {ts : List T3} : ∃ gs : List T3, (usrt lexL (ts.map tieL)).map kW = gs.map tieW ∧ gs.length ≤ ts.length := by
  obtain ⟨gs, h⟩ := of_tieL (ks := usrt lexL (ts.map tieL)) fun k m => by
    obtain ⟨t, _, rfl⟩ := List.mem_map.mp ((mem_usrt totL k _).mp m)
    exact ⟨t, rfl⟩
  have hl := usrt_len lexL (ts.map tieL)
  rw [h, List.length_map, List.length_map] at hl
  exact ⟨gs, by rw [h, List.map_map]; rfl, hl⟩
/-- what is drawn for the ties -/
inductive TV : W → Prop where
  | a (ts : List T3) (h : ts.length ≤ 40) : TV (.tup (ts.map tieW))
  | b (us : List W) : TV (.lst us)
  | c (ts : List T3) (h : ts.length ≤ 40) : TV (.tup (ts.map tieW ++ [.non]))
theorem agree_point {a w : W} {m : Nat} {S : Store} (ha : Dat a) (hm : m < 4) (hw : TV w) : Agree m S (.tup [.str "point", a, w]) := by
  cases hw with
  | a ts h => exact agree_pointA ha hm h
  | b us => exact agree_pointB ha hm
  | c ts h => exact agree_pointC ha hm h
theorem pt_kind {a w : W} {m : Nat} {S : Store} {v : Bool} (ha : Dat a) (hm : m < 4) (h : G_are_ties [w, .int m] S = .ok (.bl v) S) : G_is_kind [.tup [.str "point", a, w], .int m] S = .ok (.bl (labW a (top m) && v)) S := by
  cases h1 : labW a (top m) <;> simp [G_is_kind, runB_eq, sh_is_kind, startW, isTup, isStr, truW, lit_tx, is_label_ok ha hm, h1, h]
theorem face_kind {a : W} {m : Nat} {S : Store} (ha : Dat a) (hm : m < 4) : G_is_kind [.tup [.str "face", a], .int m] S = .ok (.bl (labW a (top m))) S := by
  simp [G_is_kind, runB_eq, sh_is_kind, startW, isTup, isStr, truW, lit_tx, is_label_ok ha hm]
def wideT : List T3 := [(0, 0, 3), (0, 1, 3), (0, 2, 3), (1, 0, 3), (1, 1, 3), (1, 2, 3), (2, 0, 3), (2, 1, 3), (2, 2, 3), (3, 0, 3), (3, 1, 3), (3, 2, 3)]
def rowT (j : Int) : List T3 := [(0, j, 3), (1, j, 3), (2, j, 3), (3, j, 3)]
theorem row_ok (j : Int) {S : Store} {x0 x1 x2 x3 x4 x5 x6 x7 x8 x9 x10 x11 x12 : Option W} : mLcL (gNm 10) mYes (mAp gTup (mCons (mVar 10) (mCons (mC (.int j)) (mCons (mC (.int 3)) mNil)))) [x0, x1, x2, x3, x4, x5, x6, x7, x8, x9, x10, x11, x12] (rngW 0 4) [] S = .ok ((rowT j).map tieW) S := by
  rw [lcL_pure (fun w => match w with
    | .int k => tieW (k, j, 3)
    | w => w) (rngW 0 4) [] (by decide) (fun w hw => by
      obtain ⟨k, _, rfl⟩ := List.mem_map.mp hw
      exact ⟨[x0, x1, x2, x3, x4, x5, x6, x7, x8, x9, some (.int (0 + k)), x11, x12], by simp, by simp [tieW]⟩)]
  rfl
theorem plain (ns : List Int) (hns : ns.length ≤ 63) : ∃ S, G_law [.flst (ns.map W.int)] [] = .ok (.bl true) S := by
  refine Ev.law ?_
  obtain ⟨b, hb, ec⟩ := cells_ok (S := []) hns
  generalize W.flst (ns.map W.int) = sc at ec ⊢
  have ok12 : okR 12 = true := by decide
  have ok4 : okR 4 = true := by decide
  have hlim : lim = 16777216 := rfl
  simp only [G_law, sh_law, runB_eq, startW, mSeq_eq, mAsg_eq, mAp_eq, mCons_eq, mNil_eq, mVar_0, mVar_s, mC_eq, ok_bind, ec, gNm_eq, ev_bind, ev_ok, List.map_cons, List.map_nil, List.length_cons, List.length_nil, List.replicate, List.cons_append, List.nil_append, List.set_cons_succ, List.set_cons_zero, seqK_nx, mFor_eq, mRange1_eq, rng1_eq, ok12, if_true, mForI_fix]
  refine Ev.mono (forL_ev (fun r e T => TurnJ sc e T) ?_ _ _ _ ⟨b, none, none, none, none, none, none, none, rfl, hb, rfl⟩) ?_
  · rintro u r e T ⟨b, o2, o4, o5, o6, o7, o8, o9, hT, hb, rfl⟩
    simp only [gNm_eq, ev_ok, List.set_cons_succ, List.set_cons_zero, mSeq_eq, mAsg_eq, mCons_eq, mAp_eq, mVar_0, mVar_s, mNil_eq, mC_eq, ok_bind, ev_bind]
    refine ev_draw hT hb (by decide) (by decide) fun m b1 hm hb1 => ?_
    have hm : m < 4 := by omega
    have ht1 := top1 m
    have ht8 := top8 m
    simp only [ev_ok, seqK_nx, mSeq_eq, mAsg_eq, mCons_eq, mAp_eq, mVar_0, mVar_s, mNil_eq, ok_bind, ev_bind, law_top_ok hm, gNm_eq, List.set_cons_succ, List.set_cons_zero, mLc_eq, mRange1_eq, mBin_eq, mC_eq]
    generalize hc : top m = c at ht1 ht8
    obtain ⟨i, b2, hi0, hi, hb2, ei⟩ := draw_ok (n := 4) (st_get (b' := b1) hT) hb1 (by decide) (by decide)
    rw [List.set_set] at ei
    obtain ⟨n, hn⟩ : ∃ n : Int, n = 1 + i := ⟨_, rfl⟩
    have okn : okR n = true := by rw [hn]; simp [okR]; omega
    simp only [ei, gAdd_int, ev_ok, rng1_eq, ← hn, okn, if_true, mLcI_fix, wipeW, List.set_cons_succ, List.set_cons_zero]
    refine Ev.mono (lcL_ev (fun r acc T' => ∃ (ps : List (Int × Int)) (b' : Bag), acc = ps.map rowW ∧ (∀ p, p ∈ ps → rowOk c p) ∧ ps.length + r.length ≤ 4 ∧ Bag.Ok b' ∧ T' = T.set 0 b'.ob) ?_ _ _ _ ⟨[], b2, rfl, nofun, by simp [rngW, hn]; omega, hb2, rfl⟩) ?_
    · rintro v r acc T' ⟨ps, b', rfl, hps, hl, hb', rfl⟩
      rw [List.length_cons] at hl
      have c0 : (ps.map rowW).length < lim := by rw [List.length_map]; omega
      have c2 : (2 : Nat) ≤ lim := by decide
      simp only [mLcT_eq, gNm_eq, nox_ok, ok_bind, mYes_eq, if_true, ev_bind, ev_nox, List.set_cons_succ, List.set_cons_zero, mAp_eq, mCons_eq, mVar_0, mVar_s, mNil_eq, ev_ok]
      refine ev_draw (st_get hT) hb' (by omega) (by omega) fun x b3 hx hb3 => ?_
      rw [List.set_set]
      refine ev_draw (st_get hT) hb3 (by omega) (by omega) fun y b4 hy hb4 => ?_
      rw [List.set_set]
      obtain ⟨p, hp, e⟩ := sort2 (x := x) (y := y) (c := c) ⟨by omega, by omega⟩ ⟨by omega, by omega⟩ (T.set 0 b4.ob)
      simp only [ev_ok, gLst_eq, List.length_cons, List.length_nil, Nat.zero_add, Nat.reduceAdd, c2, if_true, g1_eq, e, c0]
      refine ⟨ps ++ [p], b4, by simp, fun q hq => ?_, by rw [List.length_append, List.length_singleton]; omega, hb4, rfl⟩
      rcases List.mem_append.mp hq with hq | hq
      · exact hps q hq
      · rw [List.mem_singleton.mp hq]; exact hp
    · rintro acc T' ⟨ps, b3, rfl, hps, hl, hb3, rfl⟩
      simp only [ev_ok, seqK_nx, mSeq_eq, mAsg_eq, mLc_eq, mItems_eq, mVar_0, mVar_s, ok_bind, ev_bind, mLcI_fix, wipeW, List.set_cons_succ, List.set_cons_zero, gNm_eq]
      refine Ev.mono (lcL_ev (fun r acc T' => ∃ (qs : List (Int × Int)) (ts : List T3) (b' : Bag), r = qs.map rowW ∧ acc = ts.map tieW ∧ (∀ p, p ∈ qs → rowOk c p) ∧ Fine ts ∧ ts.length + qs.length ≤ 4 ∧ Bag.Ok b' ∧ T' = T.set 0 b'.ob) ?_ _ _ _ ⟨ps, [], b3, rfl, rfl, hps, ⟨nofun, nofun⟩, by simpa using hl, hb3, rfl⟩) ?_
      · rintro v r acc T' ⟨qs, ts, b', hr, rfl, hqs, hF, hl, hb', rfl⟩
        cases qs with
        | nil => cases hr
        | cons p qs =>
          rw [List.map_cons, List.cons.injEq] at hr
          obtain ⟨rfl, rfl⟩ := hr
          rw [List.length_cons] at hl
          have hp := hqs p List.mem_cons_self
          have c0 : (ts.map tieW).length < lim := by rw [List.length_map]; omega
          have c3 : (3 : Nat) ≤ lim := by decide
          have tg : ∀ T, gLs 2 (RL.gCons (gNm 11) (RL.gCons (gNm 12) RL.gNil)) (rowW p) [some sc, some (.ref 0), some u, none, some (.int m), some (.int c), some (.lst (ps.map rowW)), o7, o8, o9, none, none, none] T = .ok [some sc, some (.ref 0), some u, none, some (.int m), some (.int c), some (.lst (ps.map rowW)), o7, o8, o9, none, some (.int p.1), some (.int p.2)] T := fun T => by simp [rowW, gLs]
          simp only [mLcT_eq, tg, nox_ok, ok_bind, mYes_eq, if_true, ev_bind, ev_nox, mAp_eq, mCons_eq, mVar_0, mVar_s, mNil_eq, ev_ok]
          refine ev_draw (st_get hT) hb' (by omega) (by omega) fun x b4 hx hb4 => ?_
          rw [List.set_set]
          simp only [ev_ok, gTup_eq, List.length_cons, List.length_nil, Nat.zero_add, Nat.reduceAdd, c3, if_true, c0]
          exact ⟨qs, ts ++ [((x : Int), p.1, p.2)], b4, rfl, by simp [tieW], fun q hq => hqs q (List.mem_cons_of_mem _ hq), hF.snoc (by omega) hp.1 (by have := hp.2.1; have := hp.2.2; omega) (by have := hp.2.1; have := hp.1; omega) (by have := hp.2.2; omega), by rw [List.length_append, List.length_singleton]; omega, hb4, rfl⟩
      · rintro acc T' ⟨qs, ts, b4, hr, rfl, _, hF, hl, hb4, rfl⟩
        have htl : ts.length ≤ 4 := by omega
        have hs := srtset_ties (S := T.set 0 b4.ob) (w := .lst (ts.map tieW)) rfl (by omega) hF
        obtain ⟨gs, hgs, hgl⟩ := sorted_as (ts := ts)
        rw [hgs] at hs
        have hto : ∀ ws T, gTupOf (.lst ws) T = .ok (.tup ws) T := fun ws T => rfl
        have c1 : (1 : Nat) ≤ lim := by decide
        have c0 : (0 : Nat) ≤ lim := by decide
        have c6 : (6 : Nat) ≤ lim := by decide
        have c7 : (7 : Nat) ≤ lim := by decide
        have c15 : (15 : Nat) ≤ lim := by decide
        have c2 : (2 : Nat) ≤ lim := by decide
        have c3 : (3 : Nat) ≤ lim := by decide
        have c4 : (4 : Nat) ≤ lim := by decide
        have cadd : ∀ T, gAdd (.tup (ts.map tieW)) (.tup [.non]) T = .ok (.tup (ts.map tieW ++ [.non])) T := fun T => by
          show (if (ts.map tieW).length + 1 ≤ lim then Res.ok (W.tup (ts.map tieW ++ [.non])) T else .bad) = _
          rw [if_pos (by rw [List.length_map]; omega)]
        simp only [ev_ok, seqK_nx, mSeq_eq, mAsg_eq, mAp_eq, mCons_eq, mNil_eq, mUn_eq, mBin_eq, mC_eq, mVar_0, mVar_s, ok_bind, ev_bind, hs, g1_eq, hto, gTup_eq, gLst_eq, List.length_cons, List.length_nil, Nat.zero_add, Nat.reduceAdd, c1, c0, c6, if_true, cadd, gNm_eq, List.set_cons_succ, List.set_cons_zero]
        refine ev_one (.inl rfl) (st_get hT) hb4 (by simp) (by simp) fun tv b5 htv hb5 => ?_
        rw [List.set_set]
        have hTV : TV tv := by
          simp only [List.mem_cons, List.not_mem_nil, or_false] at htv
          rcases htv with rfl | rfl | rfl | rfl | rfl | rfl
          · exact .a gs (by omega)
          · exact .a gs (by omega)
          · exact .a ts (by omega)
          · exact .b _
          · exact .c ts (by omega)
          · exact .a [] (by decide)
        refine ev_draw (st_get hT) hb5 (by omega) (by omega) fun x b6 hx hb6 => ?_
        rw [List.set_set]
        refine ev_draw (st_get hT) hb6 (by omega) (by omega) fun y b7 hy hb7 => ?_
        rw [List.set_set]
        simp only [ev_ok, gI_eq, gLst_eq, List.length_cons, List.length_nil, Nat.zero_add, Nat.reduceAdd, c7, if_true]
        refine ev_one (.inl rfl) (st_get hT) hb7 (by simp) (by simp) fun lab b8 hlab hb8 => ?_
        rw [List.set_set]
        have hD : Dat lab := by
          simp only [List.mem_cons, List.not_mem_nil, or_false] at hlab
          rcases hlab with rfl | rfl | rfl | rfl | rfl | rfl | rfl <;> exact trivial
        simp only [ev_ok, seqK_nx, mSeq_eq, mAsg_eq, mAp_eq, mCons_eq, mNil_eq, mBin_eq, mC_eq, mVar_0, mVar_s, ok_bind, ev_bind, gNm_eq, List.set_cons_succ, List.set_cons_zero, gTup_eq, List.length_cons, List.length_nil, Nat.zero_add, Nat.reduceAdd, c2, c3, c4, c0, if_true]
        refine ev_draw (st_get hT) hb8 (by omega) (by omega) fun x2 b9 hx2 hb9 => ?_
        rw [List.set_set]
        refine ev_draw (n := c + 1) (st_get hT) hb9 (by omega) (by omega) fun x3 b10 hx3 hb10 => ?_
        rw [List.set_set]
        simp only [ev_ok, gTup_eq, gLst_eq, List.length_cons, List.length_nil, Nat.zero_add, Nat.reduceAdd, c2, c3, c4, c0, c15, if_true]
        refine ev_one (.inl rfl) (st_get hT) hb10 (by simp) (by simp) fun k b11 hk hb11 => ?_
        rw [List.set_set]
        have hA : Agree m (T.set 0 b11.ob) k := by
          simp only [List.mem_cons, List.not_mem_nil, or_false] at hk
          rcases hk with rfl | rfl | rfl | rfl | rfl | rfl | rfl | rfl | rfl | rfl | rfl | rfl | rfl | rfl | rfl
          · exact agree_face hD hm
          · exact agree_border hD (datI 0) (datI _) hm
          · exact agree_border (datI 0) (datI 1) (datI 0) hm
          · exact agree_dot hD (datI _) hm
          · exact agree_point hD hm hTV
          · exact agree_point (datI 0) hm hTV
          · exact agree_face3 hD hm
          · exact agree_point2 hD hm
          · exact agree_lst
          · exact agree_non
          · exact agree_str
          · exact agree_empty
          · exact agree_Face
          · exact agree_00
          · exact agree_dot2 (datI 0) hm
        obtain ⟨v, hk1, hk2⟩ := hA
        have hsm : G__law_same 10 [.lst [.bl v, .bl v], .lst [.bl v, .bl v]] (T.set 0 b11.ob) = .ok (.bl true) (T.set 0 b11.ob) := same_self 10 _ (by cases v <;> decide +kernel) _
        have pk : ∀ u v : W, pIdx [1, 0] [u, v] = [v, u] := fun _ _ => rfl
        have mul : gMul (.lst [.bl v]) (.int 2) (T.set 0 b11.ob) = .ok (.lst [.bl v, .bl v]) (T.set 0 b11.ob) := by simp [List.replicate]
        simp only [ev_ok, seqK_nx, mSeq_eq, mIf_eq, mNotT_eq, mTru_eq, mAp_eq, mCons_eq, mNil_eq, mBin_eq, mC_eq, mVar_0, mVar_s, mCallK_eq, ok_bind, ev_bind, gNm_eq, List.set_cons_succ, List.set_cons_zero, List.nil_append, pk, hk1, hk2, gLst_eq, List.length_cons, List.length_nil, Nat.zero_add, Nat.reduceAdd, c1, c2, if_true, mul, hsm, truW, Bool.not_true, Bool.false_eq_true, if_false, mSkip_eq]
        exact ⟨trivial, b11, _, _, _, _, _, _, _, st_get hT, hb11, rfl⟩
  · rintro p T ⟨hp, b, o2, o4, o5, o6, o7, o8, o9, hT, hb, he⟩
    obtain ⟨fl, e⟩ := p
    cases hp
    dsimp only at he
    subst he
    have r0 := fun {x0 x1 x2 x3 x4 x5 x6 x7 x8 x9 x10 x11 x12 : Option W} => row_ok 0 (S := T) (x0 := x0) (x1 := x1) (x2 := x2) (x3 := x3) (x4 := x4) (x5 := x5) (x6 := x6) (x7 := x7) (x8 := x8) (x9 := x9) (x10 := x10) (x11 := x11) (x12 := x12)
    have r1 := fun {x0 x1 x2 x3 x4 x5 x6 x7 x8 x9 x10 x11 x12 : Option W} => row_ok 1 (S := T) (x0 := x0) (x1 := x1) (x2 := x2) (x3 := x3) (x4 := x4) (x5 := x5) (x6 := x6) (x7 := x7) (x8 := x8) (x9 := x9) (x10 := x10) (x11 := x11) (x12 := x12)
    have r2 := fun {x0 x1 x2 x3 x4 x5 x6 x7 x8 x9 x10 x11 x12 : Option W} => row_ok 2 (S := T) (x0 := x0) (x1 := x1) (x2 := x2) (x3 := x3) (x4 := x4) (x5 := x5) (x6 := x6) (x7 := x7) (x8 := x8) (x9 := x9) (x10 := x10) (x11 := x11) (x12 := x12)
    have fineAll : Fine (rowT 0 ++ rowT 1 ++ rowT 2) := fine_all (c := 8) (by decide) (by decide +kernel)
    have hsrt := sorted_ties (S := T) (w := .lst ((rowT 0 ++ rowT 1 ++ rowT 2).map tieW)) rfl (by decide) fineAll.nn
    have hw : ((srt lexL ((rowT 0 ++ rowT 1 ++ rowT 2).map tieL)).map fun k => W.tup (k.map W.int)) = wideT.map tieW := by
      have : srt lexL ((rowT 0 ++ rowT 1 ++ rowT 2).map tieL) = wideT.map tieL := by decide +kernel
      rw [this, List.map_map]
      rfl
    rw [hw] at hsrt
    have a1 : ∀ T, gAdd (.lst ((rowT 0).map tieW)) (.lst ((rowT 1).map tieW)) T = .ok (.lst ((rowT 0 ++ rowT 1).map tieW)) T := fun T => by
      rw [gAdd_lst, if_pos (by decide), List.map_append]
    have a2 : ∀ T, gAdd (.lst ((rowT 0 ++ rowT 1).map tieW)) (.lst ((rowT 2).map tieW)) T = .ok (.lst ((rowT 0 ++ rowT 1 ++ rowT 2).map tieW)) T := fun T => by
      rw [gAdd_lst, if_pos (by decide), List.map_append (l₁ := rowT 0 ++ rowT 1)]
    have a3 : ∀ T, gAdd (.tup [.tup [.int 0, .int 0, .int 0]]) (.tup (wideT.map tieW)) T = .ok (.tup ((((0, 0, 0) : T3) :: wideT).map tieW)) T := fun T => by
      show (if 1 + (wideT.map tieW).length ≤ lim then Res.ok (W.tup ([W.tup [.int 0, .int 0, .int 0]] ++ wideT.map tieW)) T else .bad) = _
      rw [if_pos (by decide)]
      rfl
    have k1 := pt_kind (a := .int 0) (m := 2) (S := T) (datI 0) (by decide) (are_ties_A (ts := wideT) (by decide) (by decide))
    have k2 := pt_kind (a := .int 0) (m := 2) (S := T) (datI 0) (by decide) (are_ties_A (ts := (0, 0, 0) :: wideT) (by decide) (by decide))
    have k3 := face_kind (a := .int 0) (m := 0) (S := T) (datI 0) (by decide)
    rw [show (labW (.int 0) (top 2) && areB wideT (top 2)) = true from by decide +kernel] at k1
    rw [show (labW (.int 0) (top 2) && areB ((0, 0, 0) :: wideT) (top 2)) = false from by decide +kernel] at k2
    rw [show labW (.int 0) (top 0) = true from by decide +kernel] at k3
    have k1 : G_is_kind [.tup [.str "point", .int 0, .tup (wideT.map tieW)], .int 2] T = .ok (.bl true) T := k1
    have k2 : G_is_kind [.tup [.str "point", .int 0, .tup ((((0, 0, 0) : T3) :: wideT).map tieW)], .int 2] T = .ok (.bl false) T := k2
    have k3 : G_is_kind [.tup [.str "face", .int 0], .int 0] T = .ok (.bl true) T := k3
    have hl : gLen (.tup (wideT.map tieW)) T = .ok (.int 12) T := by rw [gLen_tup]; rfl
    have hto : gTupOf (.lst (wideT.map tieW)) T = .ok (.tup (wideT.map tieW)) T := rfl
    have hsm : G__law_same 10 [.lst [.int 12, .bl true, .bl false, .bl true], .lst [.int 12, .bl true, .bl false, .bl true]] T = .ok (.bl true) T := same_self 10 _ (by decide +kernel) T
    have c1 : (1 : Nat) ≤ lim := by decide
    have c2 : (2 : Nat) ≤ lim := by decide
    have c3 : (3 : Nat) ≤ lim := by decide
    have c4 : (4 : Nat) ≤ lim := by decide
    generalize (((0, 0, 0) : T3) :: wideT).map tieW = w13 at a3 k2
    generalize wideT.map tieW = w12 at hsrt a3 k1 hl hto
    generalize (rowT 0 ++ rowT 1 ++ rowT 2).map tieW = q3 at hsrt a2
    generalize (rowT 0 ++ rowT 1).map tieW = q2 at a1 a2
    generalize (rowT 0).map tieW = p0 at r0 a1
    generalize (rowT 1).map tieW = p1 at r1 a1
    generalize (rowT 2).map tieW = p2 at r2 a2
    simp only [seqK_nx, mSeq_eq, mAsg_eq, mAp_eq, mCons_eq, mNil_eq, mBin_eq, mLc_eq, mRange1_eq, mC_eq, mVar_0, mVar_s, ok_bind, rng1_eq, ok4, if_true, mLcI_fix, show (4 : Int).toNat = 4 from rfl, wipeW, List.set_cons_succ, List.set_cons_zero, r0, r1, r2, a1, a2, g1_eq, hsrt, hto, gNm_eq, mRet_eq, hl, gTup_eq, gLst_eq, List.length_cons, List.length_nil, Nat.zero_add, Nat.reduceAdd, c1, c2, c3, c4, k1, a3, k2, k3, hsm, runK_rt, ev_ok]
end Dk11
end

open PySem PySem.W PyProof.Rows
set_option maxRecDepth 100000 in
set_option maxHeartbeats 0 in
theorem PySem.Challenge.cw_unseenmap_k11_kinds_recognized_holds : PySem.Challenge.rw_unseenmap_k11_kinds_recognized.Holds := by
  w_on; o_law; k_head; (case hw => w_witness2)
  k_fill
  refine RL.walk_law (k := 11) (x := "_law_script") (st := Dk11.s_law) (g := Dk11.G_law) Dk11.plain (fun _ _ _ _ _ _ _ => rfl) rfl rfl ⟨rfl, by decide, by decide⟩ (fun w h Y => PySem.W.kIn_of Y) ?F
  case F =>
    intro w mg h KX G
    have T : Dk11.Txt _ mg := {
z_all := PySem.W.mg_none_of KX G (by k_is),
      z_bool := PySem.W.mg_none_of KX G (by k_is),
      z_int := PySem.W.mg_none_of KX G (by k_is),
      z_isinstance := PySem.W.mg_none_of KX G (by k_is),
      z_len := PySem.W.mg_none_of KX G (by k_is),
      z_list := PySem.W.mg_none_of KX G (by k_is),
      z_range := PySem.W.mg_none_of KX G (by k_is),
      z_set := PySem.W.mg_none_of KX G (by k_is),
      z_sorted := PySem.W.mg_none_of KX G (by k_is),
      z_str := PySem.W.mg_none_of KX G (by k_is),
      z_tuple := PySem.W.mg_none_of KX G (by k_is),
      z_zip := PySem.W.mg_none_of KX G (by k_is),
      c_MOST_TIES := RL.kcon_int KX G (by k_is),
      f_is_number := RL.ftx_mk KX G (by k_is) (by k_is) (by k_is) (by k_is) (fun _ _ _ _ _ _ us hl => match us, hl with | [_, _, _], _ => rfl),
      f_is_label := RL.ftx_mk KX G (by k_is) (by k_is) (by k_is) (by k_is) (fun _ _ _ _ _ _ us hl => match us, hl with | [_, _], _ => rfl),
      f_is_tie := RL.ftx_mk KX G (by k_is) (by k_is) (by k_is) (by k_is) (fun _ _ _ _ _ _ us hl => match us, hl with | [_, _], _ => rfl),
      f_reached := RL.ftx_mk KX G (by k_is) (by k_is) (by k_is) (by k_is) (fun _ _ _ _ _ _ us hl => match us, hl with | [_, _], _ => rfl),
      f_hang_together := RL.ftx_mk KX G (by k_is) (by k_is) (by k_is) (by k_is) (fun _ _ _ _ _ _ us hl => match us, hl with | [_], _ => rfl),
      f_are_ties := RL.ftx_mk KX G (by k_is) (by k_is) (by k_is) (by k_is) (fun _ _ _ _ _ _ us hl => match us, hl with | [_, _], _ => rfl),
      f_is_kind := RL.ftx_mk KX G (by k_is) (by k_is) (by k_is) (by k_is) (fun _ _ _ _ _ _ us hl => match us, hl with | [_, _], _ => rfl),
      f__law_cells := RL.ftx_mk KX G (by k_is) (by k_is) (by k_is) (by k_is) (fun _ _ _ _ _ _ us hl => match us, hl with | [_], _ => rfl),
      f__law_draw := RL.ftx_mk KX G (by k_is) (by k_is) (by k_is) (by k_is) (fun _ _ _ _ _ _ us hl => match us, hl with | [_, _], _ => rfl),
      f__law_one := RL.ftx_mk KX G (by k_is) (by k_is) (by k_is) (by k_is) (fun _ _ _ _ _ _ us hl => match us, hl with | [_, _], _ => rfl),
      f__law_same := RL.ftx_mk KX G (by k_is) (by k_is) (by k_is) (by k_is) (fun _ _ _ _ _ _ us hl => match us, hl with | [_, _], _ => rfl),
      f__law_top := RL.ftx_mk KX G (by k_is) (by k_is) (by k_is) (by k_is) (fun _ _ _ _ _ _ us hl => match us, hl with | [_], _ => rfl),
      f__law_tied := RL.ftx_mk KX G (by k_is) (by k_is) (by k_is) (by k_is) (fun _ _ _ _ _ _ us hl => match us, hl with | [_, _], _ => rfl),
      f__law_joined := RL.ftx_mk KX G (by k_is) (by k_is) (by k_is) (by k_is) (fun _ _ _ _ _ _ us hl => match us, hl with | [_], _ => rfl),
      f__law_kindly := RL.ftx_mk KX G (by k_is) (by k_is) (by k_is) (by k_is) (fun _ _ _ _ _ _ us hl => match us, hl with | [_, _], _ => rfl),
      f_law := RL.ftx_mk KX G (by k_is) (by k_is) (by k_is) (by k_is) (fun _ _ _ _ _ _ us hl => match us, hl with | [_], _ => rfl)
    }
    exact ⟨T.f_law, fun base => Dk11.all_ok T⟩

