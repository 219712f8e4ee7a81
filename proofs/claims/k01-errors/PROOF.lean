import PyProof.Rows.All
import Wide.All
import OpenK.AllK
import Wide.FinOn
import HandS.ForMost
import HandS.ForExc
import HandS.IsInst
import HandS.TupAny
import HandS.Deep
import HandS.Walk
import HandS.Wide
import HandS.ExcInit
import HandS.Style
import HandS.Zip
import HandS.Codes
import HandS.SetFor
import HandS.Strs
import HandS.TupSets
import HandS.SortInts
import HandS.More
import HandS.FStr
import HandS.Star
import HandS.ClsMeth
import KE.KOpsOwn
import KE.KCallOwn
import OpenK.KOps
import HandS.SetTxt0
import KE.KFmtOwn
import HandS.ExcField
import HandS.ExcIs
import KE.KExcSuper
import KE.KExcInit
import KE.KExcIs
import PySem.Challenge.RW_unseenmap_k01_errors
set_option Elab.async false
set_option linter.all false
section
set_option maxRecDepth 100000
set_option maxHeartbeats 2000000
/-! A layer of our own over the hand layer: values as trees (W), a store of mutable objects, expressions and statements as functions over them. -/
namespace RL
open PySem PySem.Spec L2

/-! ### values, objects, results -/
inductive W where
  | non | bl (b : Bool) | int (i : Int) | str (x : Str)
  | ty (n : String)
  | gl (x : Str)
  | ref (l : Nat)
  | tup (ws : List W)
  | lst (ws : List W)
  | flst (ws : List W)
  | dic (ks : List Key) (ws : List W)
  | ins (c : Str) (ns : List Str) (ws : List W)
  | exn (c : Str) (ns : List Str) (ws : List W)
  deriving Inhabited
inductive Ob where
  | lst (ws : List W)
  | dic (ks : List Key) (ws : List W)
  | ins (c : Str) (ns : List Str) (ws : List W)
  deriving Inhabited
abbrev Store := List Ob
abbrev Env' := List (Option W)
inductive Res (α : Type) where
  | ok (a : α) (S : Store)
  | exc (c : Str) (ns : List Str) (ws : List W) (S : Store)
  | bad
def Res.bind {α β : Type} (r : Res α) (k : α → Store → Res β) : Res β := match r with
  | .ok a S => k a S
  | .exc c ns ws S => .exc c ns ws S
  | .bad => .bad
/-- what runs in a frame -/
abbrev SM (α : Type) := Env' → Store → Res α

/-! ### how they lie in a heap -/
def KList (K : PySem.W.Frag) (a : Addr) (xs : List V) : Prop :=
  ∃ (o : Obj) (its : Array Value) (n : Nat), K.lookup a = some o ∧ o.cls = .type "list" ∧ o.dict = none ∧ o.data = .seq its n ∧ its.size ≤ sizeLine ∧ Vals xs its.toList
def KTup (K : PySem.W.Frag) (a : Addr) (xs : List V) : Prop :=
  ∃ (o : Obj) (its : Array Value) (n : Nat), K.lookup a = some o ∧ o.cls = .type "tuple" ∧ o.data = .seq its n ∧ its.size ≤ sizeLine ∧ Vals xs its.toList

/-- where the store's objects lie (r); what else is in flux: the lists of the comprehensions around (t) -/
structure RT where
  r : List Addr
  t : List Addr
/-- tracked, and no mutable object of the store -/
def Fx (ρ : RT) (H : Hp) (a : Addr) (o : HO) : Prop := H a = some o ∧ a ∉ ρ.r ∧ a ∉ ρ.t
section
variable (K : PySem.W.Frag) (mg : Str → Option Value) (ρ : RT) (H : Hp)
mutual
inductive RW : W → V → Prop where
  | non : RW .non .non
  | bl (b : Bool) : RW (.bl b) (.bl b)
  | int (i : Int) : RW (.int i) (.int i)
  | str (x : Str) : RW (.str x) (.str x)
  | ty (n : String) : RW (.ty n) (.ty n)
  | gl {x : Str} {a : Addr} (h : mg x = some (.ref a)) : RW (.gl x) (.ref a)
  | ref {l : Nat} {a : Addr} (h : ρ.r[l]? = some a) : RW (.ref l) (.ref a)
  | tup {a : Addr} {vs : List V} {ws : List W} (h : Fx ρ H a (.tup vs) ∨ KTup K a vs) (r : RWs ws vs) : RW (.tup ws) (.ref a)
  | lst {a : Addr} {vs : List V} {ws : List W} (h : Fx ρ H a (.lst vs)) (r : RWs ws vs) : RW (.lst ws) (.ref a)
  | flst {a : Addr} {vs : List V} {ws : List W} (h : (∃ o, Fx ρ H a (.frz o (.lst vs))) ∨ KList K a vs) (r : RWs ws vs) : RW (.flst ws) (.ref a)
  | dic {a : Addr} {ks : List Key} {ws : List W} {vs : List V} (h : Fx ρ H a (.dK (ks.zip vs))) (hl : ks.length = vs.length) (r : RWs ws vs) : RW (.dic ks ws) (.ref a)
  | ins {a C dx : Addr} {c : Str} {ns : List Str} {ws : List W} {vs : List V} (hc : mg c = some (.ref C)) (h : Fx ρ H a (.ins C dx (ns.zip vs))) (hl : ns.length = vs.length) (r : RWs ws vs) : RW (.ins c ns ws) (.ref a)
  | exn {a C dx : Addr} {c : Str} {ns : List Str} {ws : List W} {vs : List V} (hc : mg c = some (.ref C)) (h : Fx ρ H a (exo a C (some dx))) (hd : Fx ρ H dx (.xd (ns.zip vs))) (hl : ns.length = vs.length) (r : RWs ws vs) : RW (.exn c ns ws) (.ref a)
inductive RWs : List W → List V → Prop where
  | nil : RWs [] []
  | cons {w : W} {v : V} {ws : List W} {vs : List V} (h : RW w v) (t : RWs ws vs) : RWs (w :: ws) (v :: vs)
end
inductive RO : Addr → Ob → Prop where
  | lst {a : Addr} {vs : List V} {ws : List W} (h : H a = some (.lst vs)) (r : RWs K mg ρ H ws vs) : RO a (.lst ws)
  | dic {a : Addr} {ks : List Key} {ws : List W} {vs : List V} (h : H a = some (.dK (ks.zip vs))) (hl : ks.length = vs.length) (r : RWs K mg ρ H ws vs) : RO a (.dic ks ws)
  | ins {a C dx : Addr} {c : Str} {ns : List Str} {ws : List W} {vs : List V} (hc : mg c = some (.ref C)) (h : H a = some (.ins C dx (ns.zip vs))) (hl : ns.length = vs.length) (r : RWs K mg ρ H ws vs) : RO a (.ins c ns ws)
structure RepS (S : Store) : Prop where
  len : ρ.r.length = S.length
  nd : ρ.r.Nodup
  ob : ∀ (l : Nat) (o : Ob), S[l]? = some o → ∃ a, ρ.r[l]? = some a ∧ RO K mg ρ H a o
  tk : ∀ a, a ∈ ρ.t → H a ≠ none ∧ a ∉ ρ.r
structure REnv (s : Env') (σ : St) : Prop where
  len : s.length = σ.length
  look : ∀ (i : Nat) (w : W), s[i]? = some (some w) → ∃ v, σ[i]? = some (some v) ∧ RW K mg ρ H w v
end
/-- later: the store has grown, what is no object of the store stands as it stood -/
structure Ext (ρ : RT) (H : Hp) (ρ' : RT) (H' : Hp) : Prop where
  pre : ∀ (l : Nat) a, ρ.r[l]? = some a → ρ'.r[l]? = some a
  sub : ∀ b, b ∈ ρ.t → b ∈ ρ'.t
  newt : ∀ b, b ∈ ρ'.t → b ∈ ρ.t ∨ H b = none
  keep : ∀ b o, H b = some o → b ∉ ρ.r → H' b = some o
  new : ∀ b, b ∈ ρ'.r → b ∈ ρ.r ∨ H b = none
  still : ∀ b, b ∈ ρ.r → H b ≠ none → H' b ≠ none
theorem Ext.refl (ρ : RT) (H : Hp) : Ext ρ H ρ H := ⟨fun _ _ h => h, fun _ h => h, fun _ h => .inl h, fun _ _ h _ => h, fun _ h => .inl h, fun _ _ h => h⟩
theorem Ext.not {ρ ρ' : RT} {H H' : Hp} (e : Ext ρ H ρ' H') {a : Addr} {o : HO} (h : H a = some o) (n : a ∉ ρ.r) : a ∉ ρ'.r := fun m => by
  rcases e.new a m with z | z
  · exact n z
  · rw [h] at z; cases z
theorem Ext.trans {ρ ρ1 ρ2 : RT} {H H1 H2 : Hp} (a : Ext ρ H ρ1 H1) (b : Ext ρ1 H1 ρ2 H2) : Ext ρ H ρ2 H2 where
  pre := fun l x h => b.pre l x (a.pre l x h)
  sub := fun x m => b.sub x (a.sub x m)
  newt := fun x m => by
    rcases b.newt x m with z | z
    · exact a.newt x z
    · cases q : H x with
      | none => exact .inr rfl
      | some o =>
        by_cases hx : x ∈ ρ.r
        · exact absurd z (a.still x hx (by rw [q]; simp))
        · rw [a.keep x o q hx] at z; cases z
  keep := fun x o h n => b.keep x o (a.keep x o h n) (a.not h n)
  new := fun x m => by
    rcases b.new x m with z | z
    · exact a.new x z
    · by_cases hx : x ∈ ρ.r
      · exact .inl hx
      · cases q : H x with
        | none => exact .inr rfl
        | some o => rw [a.keep x o q hx] at z; cases z
  still := fun x m h => by
    have m1 : x ∈ ρ1.r := by
      obtain ⟨i, hi⟩ := List.mem_iff_getElem?.mp m
      exact List.mem_iff_getElem?.mpr ⟨i, a.pre i x hi⟩
    exact b.still x m1 (a.still x m h)
theorem Fx.ext {ρ ρ' : RT} {H H' : Hp} {a : Addr} {o : HO} (h : Fx ρ H a o) (e : Ext ρ H ρ' H') : Fx ρ' H' a o := ⟨e.keep _ _ h.1 h.2.1, e.not h.1 h.2.1, fun m => (e.newt a m).elim h.2.2 fun z => by rw [h.1] at z; cases z⟩
section
variable {K : PySem.W.Frag} {mg : Str → Option Value} {ρ ρ' : RT} {H H' : Hp}
mutual
theorem RW.ext (e : Ext ρ H ρ' H') : ∀ {w : W} {v : V}, RW K mg ρ H w v → RW K mg ρ' H' w v
  | _, _, .non => .non
  | _, _, .bl b => .bl b
  | _, _, .int b => .int b
  | _, _, .str b => .str b
  | _, _, .ty b => .ty b
  | _, _, .gl h => .gl h
  | _, _, .ref h => .ref (e.pre _ _ h)
  | _, _, .tup h r => .tup (h.imp (fun z => z.ext e) id) (RWs.ext e r)
  | _, _, .lst h r => .lst (h.ext e) (RWs.ext e r)
  | _, _, .flst h r => .flst (h.imp (fun ⟨o, z⟩ => ⟨o, z.ext e⟩) id) (RWs.ext e r)
  | _, _, .dic h hl r => .dic (h.ext e) hl (RWs.ext e r)
  | _, _, .ins hc h hl r => .ins hc (h.ext e) hl (RWs.ext e r)
  | _, _, .exn hc h hd hl r => .exn hc (h.ext e) (hd.ext e) hl (RWs.ext e r)
theorem RWs.ext (e : Ext ρ H ρ' H') : ∀ {ws : List W} {vs : List V}, RWs K mg ρ H ws vs → RWs K mg ρ' H' ws vs
  | _, _, .nil => .nil
  | _, _, .cons h t => .cons (RW.ext e h) (RWs.ext e t)
end
theorem RWs.length : ∀ {ws : List W} {vs : List V}, RWs K mg ρ H ws vs → ws.length = vs.length
  | _, _, .nil => rfl
  | _, _, .cons _ t => by rw [List.length_cons, List.length_cons, t.length]
theorem RWs.get : ∀ {ws : List W} {vs : List V} {i : Nat} {w : W}, RWs K mg ρ H ws vs → ws[i]? = some w → ∃ v, vs[i]? = some v ∧ RW K mg ρ H w v
  | _, _, _, _, .nil, h => by simp at h
  | _, _, 0, _, .cons r _, h => by simp at h; subst h; exact ⟨_, rfl, r⟩
  | _, _, i + 1, _, .cons _ t, h => by
    obtain ⟨v, h1, h2⟩ := t.get (i := i) (by simpa using h)
    exact ⟨v, by simpa using h1, h2⟩
theorem RWs.get' : ∀ {ws : List W} {vs : List V} {i : Nat} {v : V}, RWs K mg ρ H ws vs → vs[i]? = some v → ∃ w, ws[i]? = some w ∧ RW K mg ρ H w v
  | _, _, _, _, .nil, h => by simp at h
  | _, _, 0, _, .cons r _, h => by simp at h; subst h; exact ⟨_, rfl, r⟩
  | _, _, i + 1, _, .cons _ t, h => by
    obtain ⟨v, h1, h2⟩ := t.get' (i := i) (by simpa using h)
    exact ⟨v, by simpa using h1, h2⟩
theorem RWs.append : ∀ {ws ws' : List W} {vs vs' : List V}, RWs K mg ρ H ws vs → RWs K mg ρ H ws' vs' → RWs K mg ρ H (ws ++ ws') (vs ++ vs')
  | _, _, _, _, .nil, h => h
  | _, _, _, _, .cons r t, h => .cons r (t.append h)
theorem RWs.take : ∀ {ws : List W} {vs : List V} (n : Nat), RWs K mg ρ H ws vs → RWs K mg ρ H (ws.take n) (vs.take n)
  | _, _, 0, _ => .nil
  | _, _, _ + 1, .nil => .nil
  | _, _, n + 1, .cons r t => .cons r (t.take n)
theorem RWs.drop : ∀ {ws : List W} {vs : List V} (n : Nat), RWs K mg ρ H ws vs → RWs K mg ρ H (ws.drop n) (vs.drop n)
  | _, _, 0, r => r
  | _, _, _ + 1, .nil => .nil
  | _, _, n + 1, .cons _ t => t.drop n
theorem RWs.set {w : W} {v : V} (r : RW K mg ρ H w v) : ∀ {ws : List W} {vs : List V} (i : Nat), RWs K mg ρ H ws vs → RWs K mg ρ H (ws.set i w) (vs.set i v)
  | _, _, _, .nil => .nil
  | _, _, 0, .cons _ t => .cons r t
  | _, _, i + 1, .cons q t => .cons q (t.set r i)
theorem RWs.nil_of {vs : List V} (r : RWs K mg ρ H [] vs) : vs = [] := by cases r; rfl
theorem RWs.one {w : W} {vs : List V} (r : RWs K mg ρ H [w] vs) : ∃ v, vs = [v] ∧ RW K mg ρ H w v := by
  cases r with | cons h t => cases t; exact ⟨_, rfl, h⟩
theorem RWs.two {w w' : W} {vs : List V} (r : RWs K mg ρ H [w, w'] vs) : ∃ v v', vs = [v, v'] ∧ RW K mg ρ H w v ∧ RW K mg ρ H w' v' := by
  cases r with | cons h t => obtain ⟨v', rfl, h'⟩ := t.one; exact ⟨_, _, rfl, h, h'⟩

theorem RO.ext (e : Ext ρ H ρ' H') {a : Addr} {o : Ob} (hs : H' a = H a) (h : RO K mg ρ H a o) : RO K mg ρ' H' a o := by
  cases h with
  | lst h r => exact .lst (hs.trans h) (r.ext e)
  | dic h hl r => exact .dic (hs.trans h) hl (r.ext e)
  | ins hc h hl r => exact .ins hc (hs.trans h) hl (r.ext e)
theorem RO.there {a : Addr} {o : Ob} (h : RO K mg ρ H a o) : ∃ u, H a = some u := by
  cases h with
  | lst h r => exact ⟨_, h⟩
  | dic h hl r => exact ⟨_, h⟩
  | ins hc h hl r => exact ⟨_, h⟩
theorem RepS.mem {S : Store} (R : RepS K mg ρ H S) {a : Addr} (h : a ∈ ρ.r) : ∃ u, H a = some u := by
  obtain ⟨i, hi⟩ := List.mem_iff_getElem?.mp h
  have hl : i < ρ.r.length := (List.getElem?_eq_some_iff.mp hi).1
  have hs : i < S.length := by rw [← R.len]; exact hl
  obtain ⟨a', h1, h2⟩ := R.ob i S[i] (List.getElem?_eq_getElem hs)
  rw [hi] at h1; cases h1
  exact h2.there
theorem RepS.fresh {S : Store} (R : RepS K mg ρ H S) {p : Addr} (h : H p = none) : p ∉ ρ.r ∧ p ∉ ρ.t := by
  refine ⟨fun m => ?_, fun m => (R.tk p m).1 h⟩
  obtain ⟨u, e⟩ := R.mem m
  rw [h] at e; cases e
/-- a new tree's root -/
theorem RepS.tree {S : Store} (R : RepS K mg ρ H S) {p : Addr} (h : H p = none) (o : HO) : Ext ρ H ρ (upd H p o) ∧ RepS K mg ρ (upd H p o) S := by
  have e : Ext ρ H ρ (upd H p o) := ⟨fun _ _ h => h, fun _ h => h, fun _ h => .inl h, fun b u hb _ => by rw [upd_ne (ne_of_none hb h)]; exact hb, fun _ h => .inl h, fun b m hb => by
    have n : b ≠ p := fun z => (R.fresh h).1 (z ▸ m)
    rw [upd_ne n]; exact hb⟩
  refine ⟨e, R.len, R.nd, fun l ob hl => ?_, fun a m => ⟨?_, (R.tk a m).2⟩⟩
  · obtain ⟨a, h1, h2⟩ := R.ob l ob hl
    refine ⟨a, h1, h2.ext e (upd_ne fun z => ?_)⟩
    exact (R.fresh h).1 (z ▸ List.mem_of_getElem? h1)
  · rw [upd_ne (fun z : a = p => (R.fresh h).2 (z ▸ m))]; exact (R.tk a m).1
theorem fx_new {S : Store} (R : RepS K mg ρ H S) {p : Addr} (h : H p = none) (o : HO) : Fx ρ (upd H p o) p o := ⟨upd_same, R.fresh h⟩
/-- one object more -/
def RT.snoc (ρ : RT) (p : Addr) : RT := ⟨ρ.r ++ [p], ρ.t⟩
theorem ext_push {S : Store} (R : RepS K mg ρ H S) {p : Addr} (h : H p = none) (o : HO) : Ext ρ H (ρ.snoc p) (upd H p o) := by
  have np := (R.fresh h).1
  exact ⟨fun l a hl => by show (ρ.r ++ [p])[l]? = some a; rw [List.getElem?_append_left (List.getElem?_eq_some_iff.mp hl).1]; exact hl, fun _ h => h, fun _ h => .inl h, fun b u hb _ => by rw [upd_ne (ne_of_none hb h)]; exact hb, fun b m => by
    rcases List.mem_append.mp (show b ∈ ρ.r ++ [p] from m) with z | z
    · exact .inl z
    · have : b = p := by simpa using z
      exact .inr (this ▸ h), fun b m hb => by
    have n : b ≠ p := fun z => np (z ▸ m)
    rw [upd_ne n]; exact hb⟩
/-- a new object of the store -/
theorem RepS.push {S : Store} (R : RepS K mg ρ H S) {p : Addr} (h : H p = none) {o : HO} {u : Ob} (ho : RO K mg (ρ.snoc p) (upd H p o) p u) : Ext ρ H (ρ.snoc p) (upd H p o) ∧ RepS K mg (ρ.snoc p) (upd H p o) (S ++ [u]) := by
  have np := (R.fresh h).1
  have e := ext_push R h o
  refine ⟨e, by show (ρ.r ++ [p]).length = _; rw [List.length_append, List.length_append, R.len]; rfl, ?_, fun l ob hl => ?_, fun a m => ⟨?_, fun z => ?_⟩⟩
  · refine List.nodup_append.mpr ⟨R.nd, by simp, fun a ha b hb z => ?_⟩
    have q : b = p := by simpa using hb
    exact np (by rw [← q, ← z]; exact ha)
  · by_cases hlt : l < S.length
    · rw [List.getElem?_append_left hlt] at hl
      obtain ⟨a, h1, h2⟩ := R.ob l ob hl
      exact ⟨a, e.pre _ _ h1, h2.ext e (upd_ne fun z => np (z ▸ List.mem_of_getElem? h1))⟩
    · have hl' : l = S.length := by
        have z := (List.getElem?_eq_some_iff.mp hl).1
        rw [List.length_append, List.length_singleton] at z
        omega
      subst hl'
      rw [List.getElem?_append_right (Nat.le_refl _), Nat.sub_self] at hl
      cases (show some u = some ob from hl)
      exact ⟨p, by show (ρ.r ++ [p])[S.length]? = _; rw [← R.len, List.getElem?_append_right (Nat.le_refl _), Nat.sub_self]; rfl, ho⟩
  · rw [upd_ne (fun z : a = p => (R.fresh h).2 (z ▸ m))]; exact (R.tk a m).1
  · rcases List.mem_append.mp (show a ∈ ρ.r ++ [p] from z) with z | z
    · exact (R.tk a m).2 z
    · have : a = p := by simpa using z
      exact (R.fresh h).2 (this ▸ m)
/-- an object of the store is changed -/
theorem RepS.wr {S : Store} (R : RepS K mg ρ H S) {l : Nat} {a : Addr} (hl : ρ.r[l]? = some a) {o : HO} {u : Ob} (ho : RO K mg ρ (upd H a o) a u) : Ext ρ H ρ (upd H a o) ∧ RepS K mg ρ (upd H a o) (S.set l u) := by
  have ma : a ∈ ρ.r := List.mem_of_getElem? hl
  have e : Ext ρ H ρ (upd H a o) := ⟨fun _ _ h => h, fun _ h => h, fun _ h => .inl h, fun b u hb n => by rw [upd_ne fun z : b = a => n (by rw [z]; exact ma)]; exact hb, fun _ h => .inl h, fun b _ hb => by
    by_cases hz : b = a
    · subst hz; rw [upd_same]; simp
    · rw [upd_ne hz]; exact hb⟩
  refine ⟨e, by rw [List.length_set]; exact R.len, R.nd, fun k ob hk => ?_, fun b m => ⟨?_, (R.tk b m).2⟩⟩
  · by_cases hkl : l = k
    · subst hkl
      have hs : l < S.length := by rw [← R.len]; exact (List.getElem?_eq_some_iff.mp hl).1
      rw [List.getElem?_set_self hs] at hk
      cases hk
      exact ⟨a, hl, ho⟩
    · rw [List.getElem?_set_ne hkl] at hk
      obtain ⟨b, h1, h2⟩ := R.ob k ob hk
      refine ⟨b, h1, h2.ext e (upd_ne fun z => hkl ?_)⟩
      subst z
      obtain ⟨i1, e1⟩ := List.getElem?_eq_some_iff.mp hl
      obtain ⟨i2, e2⟩ := List.getElem?_eq_some_iff.mp h1
      exact (List.getElem_inj R.nd).mp (e1.trans e2.symm)
  · rw [upd_ne (fun z : b = a => (R.tk b m).2 (by rw [z]; exact ma))]; exact (R.tk b m).1
theorem REnv.ext {s : Env'} {σ : St} (e : Ext ρ H ρ' H') (h : REnv K mg ρ H s σ) : REnv K mg ρ' H' s σ := ⟨h.len, fun i w hw => let ⟨v, h1, h2⟩ := h.look i w hw; ⟨v, h1, h2.ext e⟩⟩
theorem REnv.set {s : Env'} {σ : St} {w : W} {v : V} (h : REnv K mg ρ H s σ) (i : Nat) (r : RW K mg ρ H w v) : REnv K mg ρ H (s.set i (some w)) (σ.set i (some v)) := by
  refine ⟨by rw [List.length_set, List.length_set]; exact h.len, fun j u hj => ?_⟩
  by_cases hij : i = j
  · subst hij
    by_cases hi : i < s.length
    · rw [List.getElem?_set_self hi] at hj
      cases hj
      exact ⟨v, List.getElem?_set_self (by rw [← h.len]; exact hi), r⟩
    · rw [List.getElem?_eq_none (by rw [List.length_set]; omega)] at hj; cases hj
  · rw [List.getElem?_set_ne hij] at hj
    obtain ⟨v', h1, h2⟩ := h.look j u hj
    exact ⟨v', by rw [List.getElem?_set_ne hij]; exact h1, h2⟩
theorem REnv.forget {s : Env'} {σ : St} (h : REnv K mg ρ H s σ) (i : Nat) : REnv K mg ρ H (s.set i none) σ := by
  refine ⟨by rw [List.length_set]; exact h.len, fun j u hj => ?_⟩
  by_cases hij : i = j
  · subst hij
    by_cases hi : i < s.length
    · rw [List.getElem?_set_self hi] at hj; cases hj
    · rw [List.getElem?_eq_none (by rw [List.length_set]; omega)] at hj; cases hj
  · rw [List.getElem?_set_ne hij] at hj
    exact h.look j u hj
end

/-! ### what is wanted of a result -/
abbrev Rl (β : Type) (α : Type) := RT → Hp → α → β → Prop
section
variable (K : PySem.W.Frag) (mg : Str → Option Value)
def ExcOut (E : XK) (ρ : RT) (H : Hp) (c : Str) (ns : List Str) (ws : List W) (S : Store) : Prop :=
  ∀ ρ' H' C d vs, Ext ρ H ρ' H' → RepS K mg ρ' H' S → mg c = some (.ref C) → H' d = some (.xd (ns.zip vs)) → ns.length = vs.length → RWs K mg ρ' H' ws vs → E (.ref C) (some d) H'
def Out {α β : Type} (R : Rl β α) (E : XK) (ρ : RT) (H : Hp) (r : Res α) (Q : β → Hp → Prop) : Prop := match r with
  | .ok w S => ∀ ρ' H' v, Ext ρ H ρ' H' → RepS K mg ρ' H' S → R ρ' H' w v → Q v H'
  | .exc c ns ws S => ExcOut K mg E ρ H c ns ws S
  | .bad => False
/-- a reading: some store and environment stand for the heap and the slots, and the result is what is wanted -/
def tX {α β : Type} (R : Rl β α) (E : XK) (m : SM α) : St → Hp → (β → Hp → Prop) → Prop := fun σ H Q =>
  ∃ ρ s S, RepS K mg ρ H S ∧ REnv K mg ρ H s σ ∧ Out K mg R E ρ H (m s S) Q
end
section
variable {K : PySem.W.Frag} {mg : Str → Option Value} {ρ ρ' : RT} {H H' : Hp} {α β γ δ : Type} {E : XK}
theorem ExcOut.ext {c : Str} {ns : List Str} {ws : List W} {S : Store} (e : Ext ρ H ρ' H') (h : ExcOut K mg E ρ H c ns ws S) : ExcOut K mg E ρ' H' c ns ws S := fun ρ2 H2 C d vs x => h ρ2 H2 C d vs (e.trans x)
theorem Out.ext {R : Rl β α} {r : Res α} {Q : β → Hp → Prop} (e : Ext ρ H ρ' H') (h : Out K mg R E ρ H r Q) : Out K mg R E ρ' H' r Q := by
  cases r with
  | ok w S => exact fun ρ2 H2 v x => h ρ2 H2 v (e.trans x)
  | exc c ns ws S => exact ExcOut.ext e h
  | bad => exact h
theorem Out.here {R : Rl β α} {w : α} {S : Store} {Q : β → Hp → Prop} {v : β} (h : Out K mg R E ρ H (.ok w S) Q) (rep : RepS K mg ρ H S) (r : R ρ H w v) : Q v H := h ρ H v (Ext.refl _ _) rep r
theorem Out.bind {R : Rl β α} {R' : Rl δ γ} {r : Res α} {k : α → Store → Res γ} {Q : δ → Hp → Prop} {Z : β → Hp → Prop} (h : Out K mg R' E ρ H (r.bind k) Q)
    (f : ∀ ρ1 H1 a b S1, Ext ρ H ρ1 H1 → RepS K mg ρ1 H1 S1 → R ρ1 H1 a b → Out K mg R' E ρ1 H1 (k a S1) Q → Z b H1) : Out K mg R E ρ H r Z := by
  cases r with
  | ok w S => exact fun ρ1 H1 v e rep rw => f ρ1 H1 w v S e rep rw (Out.ext e h)
  | exc c ns ws S => exact h
  | bad => exact h
/-- first m, then k -/
theorem tX.bind {R : Rl β α} {R' : Rl δ γ} {m : SM α} {k : α → SM γ} {σ : St} {Q : δ → Hp → Prop} {Z : β → Hp → Prop} (h : tX K mg R' E (fun s S => (m s S).bind fun a => k a s) σ H Q)
    (f : ∀ ρ1 H1 a b s S1, RepS K mg ρ1 H1 S1 → REnv K mg ρ1 H1 s σ → R ρ1 H1 a b → Out K mg R' E ρ1 H1 (k a s S1) Q → Z b H1) : tX K mg R E m σ H Z := by
  obtain ⟨ρ, s, S, rep, env, o⟩ := h
  exact ⟨ρ, s, S, rep, env, Out.bind o fun ρ1 H1 a b S1 e rep1 r o1 => f ρ1 H1 a b s S1 rep1 (env.ext e) r o1⟩
end
end RL
end

section
set_option maxRecDepth 100000
set_option maxHeartbeats 2000000
namespace RL
open PySem PySem.Spec L2

/-- the longest list, text -/
abbrev lim : Nat := 16777216
theorem lim_line {n : Nat} (h : n ≤ lim) : n ≤ sizeLine := by rw [sizeLine_eq]; exact h
theorem lim_lt {n : Nat} (h : n < lim) : n < sizeLine := by rw [sizeLine_eq]; exact h

section
variable (X : Cx) (E : XK)
abbrev tE (m : SM W) : TE := tX X.K X.mg (RW X.K X.mg) E m
abbrev tT (m : SM Bool) : TT := tX X.K X.mg (fun _ _ a b => a = b) E m
abbrev tA (m : SM (List W)) : TA := tX X.K X.mg (RWs X.K X.mg) E m
def PM (e : Expr) (m : SM W) : Prop := PE X e (tE X E m)
def PTM (e : Expr) (m : SM Bool) : Prop := PT X e (tT X E m)
def PWM (e : Expr) (m : SM Bool) : Prop := PW X e (tT X E m)
def PAM (es : List Expr) (m : SM (List W)) : Prop := PA X es (tA X E m)
end
theorem pe_imp {X : Cx} {e : Expr} {t t' : TE} (h : PE X e t) (f : ∀ σ H Q, t' σ H Q → t σ H Q) : PE X e t' := ⟨fun pins s σ H Q I q => h.run pins s σ H Q I (f σ H Q q)⟩
theorem pt_imp {X : Cx} {e : Expr} {t t' : TT} (h : PT X e t) (f : ∀ σ H Q, t' σ H Q → t σ H Q) : PT X e t' := ⟨fun pins s σ H Q I q => h.run pins s σ H Q I (f σ H Q q)⟩
theorem pw_imp {X : Cx} {e : Expr} {t t' : TT} (h : PW X e t) (f : ∀ σ H Q, t' σ H Q → t σ H Q) : PW X e t' := ⟨fun wh pins s σ H Q I q => h.run wh pins s σ H Q I (f σ H Q q)⟩
theorem pa_imp {X : Cx} {e : List Expr} {t t' : TA} (h : PA X e t) (f : ∀ σ H Q, t' σ H Q → t σ H Q) : PA X e t' := ⟨fun p pins s σ H Q I q => h.run p pins s σ H Q I (f σ H Q q)⟩

/-! ### names, constants -/
def mVar (i : Nat) : SM W := fun s S => match s[i]? with
  | some (some w) => .ok w S
  | _ => .bad
def mC (w : W) : SM W := fun _ S => .ok w S
section
variable {X : Cx} {E : XK} {pos : Pos}
theorem pm_var (i : Nat) {x : Str} (hN : X.N[i]? = some x := by rfl) (hv : Vis X.env.scope x := by first | exact Or.inl rfl | exact Or.inr (Or.inl rfl) | exact Or.inr (Or.inr rfl)) (hd : (x == ("__debug__" : Str)) = false := by decide +kernel)
    (hcd : (x == ("__classdict__" : Str)) = false := by decide +kernel) : PM X E (.Name x pos) (mVar i) := by
  refine pe_imp (pe_var hN hv hd hcd) fun σ H Q ⟨ρ, s, S, rep, env, o⟩ => ?_
  unfold mVar at o
  cases e : s[i]? with
  | none => rw [e] at o; exact o.elim
  | some q =>
    cases q with
    | none => rw [e] at o; exact o.elim
    | some w =>
      rw [e] at o
      obtain ⟨v, h1, h2⟩ := env.look i w e
      exact ⟨v, h1, Out.here o rep h2⟩
theorem tC_of {w : W} {v : V} (h : ∀ ρ H, RW X.K X.mg ρ H w v) : ∀ σ H Q, tE X E (mC w) σ H Q → tC v σ H Q := fun σ H Q ⟨ρ, s, S, rep, env, o⟩ => Out.here o rep (h ρ H)
theorem pm_int {i j} : PM X E (.Constant (.int i) j pos) (mC (.int i)) := pe_imp pe_int (tC_of fun _ _ => .int i)
theorem pm_bl {b j} : PM X E (.Constant (.bool b) j pos) (mC (.bl b)) := pe_imp pe_bl (tC_of fun _ _ => .bl b)
theorem pm_non {j} : PM X E (.Constant .none j pos) (mC .non) := pe_imp pe_non (tC_of fun _ _ => .non)
theorem pm_str {x j} : PM X E (.Constant (.str x) j pos) (mC (.str x)) := pe_imp pe_str (tC_of fun _ _ => .str x)
/-- a module's constant -/
def KCon (K : PySem.W.Frag) (mg : Str → Option Value) (x : Str) (w : W) : Prop := ∃ u v, mg x = some u ∧ RelV v u ∧ ∀ ρ H, RW K mg ρ H w v
theorem pm_glob {x : Str} {w : W} (h : KCon X.K X.mg x w) (hg : Gl X x := by rfl) (hd : (x == ("__debug__" : Str)) = false := by decide +kernel) : PM X E (.Name x pos) (mC w) := by
  obtain ⟨u, v, hm, r, h⟩ := h
  exact pe_imp (pe_glob hg hm r hd) (tC_of h)
theorem pm_ty {x : Str} {n : String} (hm : X.mg x = none) (hv : bootBuiltins x = some (.type n) := by decide +kernel) (hg : Gl X x := by rfl) (hn : x ≠ "__name__" := by decide +kernel) (hd : (x == ("__debug__" : Str)) = false := by decide +kernel) : PM X E (.Name x pos) (mC (.ty n)) :=
  pe_imp (pe_bltn hg hm hv (v := .ty n) rfl hn hd) (tC_of fun _ _ => .ty n)
end

/-! ### operators -/
def mBin (g : W → W → Store → Res W) (ma mb : SM W) : SM W := fun s S => (ma s S).bind fun x S1 => (mb s S1).bind fun y S2 => g x y S2
def mUn (g : W → Store → Res W) (ma : SM W) : SM W := fun s S => (ma s S).bind g
def R2M (X : Cx) (E : XK) (g : W → W → Store → Res W) : R2 := fun x y H Q => ∃ ρ S w1 w2, RepS X.K X.mg ρ H S ∧ RW X.K X.mg ρ H w1 x ∧ RW X.K X.mg ρ H w2 y ∧ Out X.K X.mg (RW X.K X.mg) E ρ H (g w1 w2 S) Q
def OpM (X : Cx) (E : XK) (f : Value → Value → Sem Value) (g : W → W → Store → Res W) : Prop := OpR X f (R2M X E g)
theorem OpR.imp {X : Cx} {f : Value → Value → Sem Value} {r r' : R2} (h : OpR X f r) {x y : V} {H : Hp} {Q : VK} (hr : r' x y H Q → r x y H Q) : ∀ {pins : List (Addr × Obj)} {s : Shared} {σ : L2.St} {v u : Value}, Inv X pins σ H s → RelV x v → RelV y u → r' x y H Q → wpAny (model X.prog X.w) X.A (f v u) (EP X pins σ Q) X.xe s :=
  fun I rx ry q => h _ _ _ _ _ _ _ _ _ I rx ry (hr q)
section
variable {X : Cx} {E : XK} {pos : Pos} {a b c : Expr} {ma mb mc : SM W}
theorem t2_of {g : W → W → Store → Res W} {σ : L2.St} {H : Hp} {Q : VK} (h : tE X E (mBin g ma mb) σ H Q) : tOp (R2M X E g) (tE X E ma) (tE X E mb) σ H Q :=
  tX.bind h fun ρ1 H1 w1 x s S1 rep env r o => ⟨ρ1, s, S1, rep, env, Out.bind o fun ρ2 H2 w2 y S2 e rep2 r2 o2 => ⟨ρ2, S2, w1, w2, rep2, r.ext e, r2, o2⟩⟩
theorem pm_bin {op : Operator} {g : W → W → Store → Res W} (ho : OpM X E (binaryOp op) g) (ha : PM X E a ma) (hb : PM X E b mb) : PM X E (.BinOp a op b pos) (mBin g ma mb) := pe_imp (pe_op ho ha hb) fun _ _ _ h => t2_of h
theorem pm_cmp {op : CmpOp} {g : W → W → Store → Res W} (ho : OpM X E (compareOp op) g) (ha : PM X E a ma) (hb : PM X E b mb) (hm : behindInMarks op b = false := by first | exact nomark _ | rfl) : PM X E (.Compare a [op] [b] pos) (mBin g ma mb) := pe_imp (pe_cmpR ho ha hb hm) fun _ _ _ h => t2_of h
def UnM (X : Cx) (E : XK) (f : Value → Sem Value) (g : W → Store → Res W) : Prop := UnR X f (fun x H Q => ∃ ρ S w, RepS X.K X.mg ρ H S ∧ RW X.K X.mg ρ H w x ∧ Out X.K X.mg (RW X.K X.mg) E ρ H (g w S) Q)
theorem pm_un {op : UnaryOp} {g : W → Store → Res W} (ho : UnM X E (unaryOp op) g) (ha : PM X E a ma) : PM X E (.UnaryOp op a pos) (mUn g ma) :=
  pe_imp (pe_un ho ha) fun _ _ _ h => tX.bind h fun ρ1 H1 w x s S1 rep env r o => ⟨ρ1, S1, w, rep, r, o⟩
end

/-! ### tests -/
def asB (r : Res W) : Res Bool := r.bind fun w S => match w with
  | .bl b => .ok b S
  | _ => .bad
def seqL (S : Store) : W → Option (List W)
  | .lst ws => some ws
  | .flst ws => some ws
  | .ref l => match S[l]? with
    | some (.lst ws) => some ws
    | _ => none
  | _ => none
/-- .. a list that may be added to another (it is tracked as a list) -/
def seqM (S : Store) : W → Option (List W)
  | .lst ws => some ws
  | .ref l => match S[l]? with
    | some (.lst ws) => some ws
    | _ => none
  | _ => none
/-- a value's truth -/
def truW (S : Store) : W → Option Bool
  | .non => some false
  | .bl b => some b
  | .int i => some (i != 0)
  | .str x => if x.length ≤ lim then some ((x.length : Int) != 0) else none
  | .tup ws => some (!ws.isEmpty)
  | .lst ws => some (!ws.isEmpty)
  | .flst ws => some (!ws.isEmpty)
  | .ref l => match S[l]? with
    | some (.lst ws) => some (!ws.isEmpty)
    | _ => none
  | _ => none
def mTru (m : SM W) : SM Bool := fun s S => (m s S).bind fun w S1 => match truW S1 w with
  | some b => .ok b S1
  | none => .bad
section
variable {K : PySem.W.Frag} {mg : Str → Option Value} {ρ : RT} {H : Hp} {S : Store}
theorem rws_empty {ws : List W} {vs : List V} (r : RWs K mg ρ H ws vs) : (!ws.isEmpty) = !vs.isEmpty := by cases r <;> rfl
theorem sqT_of {a : Addr} {vs : List V} (h : Fx ρ H a (.tup vs) ∨ KTup K a vs) : SqT K H a vs := by
  rcases h with h | h
  · exact .inl (.inl h.1)
  · exact .inr h
theorem sqF_of {a : Addr} {vs : List V} (h : (∃ o, Fx ρ H a (.frz o (.lst vs))) ∨ KList K a vs) : SqL K H a vs := by
  rcases h with ⟨o, h⟩ | h
  · exact .inl (.inr ⟨o, h.1⟩)
  · exact .inr h
theorem seqL_of {w : W} {x : V} {ws : List W} (rep : RepS K mg ρ H S) (r : RW K mg ρ H w x) (h : seqL S w = some ws) : ∃ a vs, x = .ref a ∧ SqL K H a vs ∧ RWs K mg ρ H ws vs := by
  cases w with
  | lst us => cases h; cases r with | lst hf hr => exact ⟨_, _, rfl, .inl (.inl hf.1), hr⟩
  | flst us => cases h; cases r with | flst hf hr => exact ⟨_, _, rfl, sqF_of hf, hr⟩
  | ref l =>
    cases r with
    | ref hl =>
      cases e : S[l]? with
      | none => simp [seqL, e] at h
      | some ob =>
        cases ob with
        | lst us =>
          have h : us = ws := by simpa [seqL, seqM, e] using h
          subst h
          obtain ⟨a, h1, h2⟩ := rep.ob l _ e
          rw [hl] at h1; cases h1
          cases h2 with
          | lst h3 h4 => exact ⟨_, _, rfl, .inl (.inl h3), h4⟩
        | _ => simp [seqL, e] at h
  | _ => cases h
theorem seqM_of {w : W} {x : V} {ws : List W} (rep : RepS K mg ρ H S) (r : RW K mg ρ H w x) (h : seqM S w = some ws) : ∃ a vs, x = .ref a ∧ H a = some (.lst vs) ∧ RWs K mg ρ H ws vs := by
  cases w with
  | lst us => cases h; cases r with | lst hf hr => exact ⟨_, _, rfl, hf.1, hr⟩
  | ref l =>
    cases r with
    | ref hl =>
      cases e : S[l]? with
      | none => simp [seqM, e] at h
      | some ob =>
        cases ob with
        | lst us =>
          have h : us = ws := by simpa [seqL, seqM, e] using h
          subst h
          obtain ⟨a, h1, h2⟩ := rep.ob l _ e
          rw [hl] at h1; cases h1
          cases h2 with
          | lst h3 h4 => exact ⟨_, _, rfl, h3, h4⟩
        | _ => simp [seqM, e] at h
  | _ => cases h
theorem truW_of {w : W} {x : V} {b : Bool} (rep : RepS K mg ρ H S) (r : RW K mg ρ H w x) (h : truW S w = some b) : TruV K x H b := by
  cases w with
  | non => cases r; exact (Option.some.inj h).symm
  | bl c => cases r; exact (Option.some.inj h).symm
  | int i => cases r; exact (Option.some.inj h).symm
  | str y =>
    cases r
    have h : (if y.length ≤ lim then some ((y.length : Int) != 0) else none) = some b := h
    split at h
    · rename_i hz; exact ⟨lim_line hz, (Option.some.inj h).symm⟩
    · cases h
  | tup ws => cases r with | tup hf hr => exact .inr (.inl ⟨_, sqT_of hf, by rw [← rws_empty hr]; exact (Option.some.inj h).symm⟩)
  | lst ws => cases r with | lst hf hr => exact .inl ⟨_, .inl (.inl hf.1), by rw [← rws_empty hr]; exact (Option.some.inj h).symm⟩
  | flst ws => cases r with | flst hf hr => exact .inl ⟨_, sqF_of hf, by rw [← rws_empty hr]; exact (Option.some.inj h).symm⟩
  | ref l =>
    have h' : (seqL S (.ref l)).map (fun ws => !ws.isEmpty) = some b := by
      cases e : S[l]? with
      | none => simp [truW, e] at h
      | some ob => cases ob <;> first | (simp [truW, seqL, e] at h ⊢; exact h) | (simp [truW, e] at h)
    cases e : seqL S (.ref l) with
    | none => rw [e] at h'; cases h'
    | some ws =>
      rw [e] at h'
      obtain ⟨a, vs, rfl, hs, hr⟩ := seqL_of rep r e
      exact .inl ⟨vs, hs, by rw [← rws_empty hr]; exact (Option.some.inj h').symm⟩
  | _ => cases h
end
section
variable {X : Cx} {E : XK} {pos : Pos} {a b c : Expr} {ma mb mc : SM W} {na nb nc : SM Bool} {rest : List Expr}
theorem out_here {α β : Type} {K : PySem.W.Frag} {mg : Str → Option Value} {R : Rl β α} {E : XK} {ρ : RT} {H : Hp} {r : Res α} {w : α} {S : Store} {Q : β → Hp → Prop} {v : β} (h : Out K mg R E ρ H r Q) (e : r = .ok w S) (rep : RepS K mg ρ H S) (rr : R ρ H w v) : Q v H := by
  rw [e] at h; exact Out.here h rep rr
/-- an expression of any kind, as a test -/
theorem ptm_tru (h : PM X E a ma) (he : ∀ whole, isTrue a X.env whole = (do let v ← whole; standAt a.pos; holding [v] (truthy v)) := by intro _; rfl) : PTM X E a (mTru ma) :=
  pt_imp (pt_truth h he) fun σ H Q q => tX.bind q fun ρ1 H1 w x s S1 rep env r o => by
    cases e : truW S1 w with
    | none => rw [e] at o; exact o.elim
    | some k => rw [e] at o; exact ⟨k, truW_of rep r e, Out.here o rep rfl⟩
def mBT (g : W → W → Store → Res W) (ma mb : SM W) : SM Bool := fun s S => asB (mBin g ma mb s S)
theorem out_asB {K : PySem.W.Frag} {mg : Str → Option Value} {E : XK} {ρ : RT} {H : Hp} {r : Res W} {Q : Bool → Hp → Prop} (h : Out K mg (fun _ _ a b => a = b) E ρ H (asB r) Q) : Out K mg (RW K mg) E ρ H r fun x H1 => ∃ k, x = .bl k ∧ Q k H1 := by
  refine Out.bind (R' := fun _ _ (a : Bool) b => a = b) h fun ρ1 H1 w x S1 e rep r o => ?_
  cases w with
  | bl k => cases r; exact ⟨k, rfl, Out.here o rep rfl⟩
  | _ => exact o.elim
theorem Res.bind_assoc {α β γ : Type} (r : Res α) (k : α → Store → Res β) (l : β → Store → Res γ) : (r.bind k).bind l = r.bind fun a S => (k a S).bind l := by cases r <;> rfl
theorem ptm_cmp {op : CmpOp} {g : W → W → Store → Res W} (ho : OpM X E (compareOp op) g) (ha : PM X E a ma) (hb : PM X E b mb) (hm : behindInMarks op b = false := by first | exact nomark _ | rfl) : PTM X E (.Compare a [op] [b] pos) (mBT g ma mb) :=
  pt_imp (pt_cmpR ho ha hb hm) fun σ H Q ⟨ρ, s, S, rep, env, o⟩ => by
    have o' := out_asB o
    exact t2_of (g := g) ⟨ρ, s, S, rep, env, o'⟩
def mAndT (na nb : SM Bool) : SM Bool := fun s S => (na s S).bind fun c S1 => if c = true then nb s S1 else .ok false S1
def mOrT (na nb : SM Bool) : SM Bool := fun s S => (na s S).bind fun c S1 => if c = true then .ok true S1 else nb s S1
def mNotT (na : SM Bool) : SM Bool := fun s S => (na s S).bind fun c S1 => .ok (!c) S1
theorem pwm_and1 (ha : PTM X E a na) : PWM X E (.BoolOp .And [a] pos) na := pw_and1 ha
theorem pwm_or1 (ha : PTM X E a na) : PWM X E (.BoolOp .Or [a] pos) na := pw_or1 ha
theorem pwm_and (ha : PTM X E a na) (hb : PWM X E (.BoolOp .And (b :: rest) pos) nb) : PWM X E (.BoolOp .And (a :: b :: rest) pos) (mAndT na nb) :=
  pw_imp (pw_and ha hb) fun σ H Q h => tX.bind h fun ρ1 H1 c c' s S1 rep env r o => by
    cases r
    cases c with
    | true => rw [if_pos rfl] at o; rw [if_pos rfl]; exact ⟨ρ1, s, S1, rep, env, o⟩
    | false => rw [if_neg Bool.false_ne_true] at o; rw [if_neg Bool.false_ne_true]; exact Out.here o rep rfl
theorem pwm_or (ha : PTM X E a na) (hb : PWM X E (.BoolOp .Or (b :: rest) pos) nb) : PWM X E (.BoolOp .Or (a :: b :: rest) pos) (mOrT na nb) :=
  pw_imp (pw_or ha hb) fun σ H Q h => tX.bind h fun ρ1 H1 c c' s S1 rep env r o => by
    cases r
    cases c with
    | false => rw [if_neg Bool.false_ne_true] at o; rw [if_neg Bool.false_ne_true]; exact ⟨ρ1, s, S1, rep, env, o⟩
    | true => rw [if_pos rfl] at o; rw [if_pos rfl]; exact Out.here o rep rfl
theorem PWM.pt (h : PWM X E a na) : PTM X E a na := PW.pt h
theorem ptm_not (ha : PTM X E a na) : PTM X E (.UnaryOp .Not a pos) (mNotT na) :=
  pt_imp (pt_not ha) fun σ H Q h => tX.bind h fun ρ1 H1 c c' s S1 rep env r o => by cases r; exact Out.here o rep rfl
/-- and, or, not as values: all but the last True or False -/
def mAndV (ma mb : SM W) : SM W := fun s S => (ma s S).bind fun w S1 => match w with
  | .bl true => mb s S1
  | .bl false => .ok (.bl false) S1
  | _ => .bad
def mOrV (ma mb : SM W) : SM W := fun s S => (ma s S).bind fun w S1 => match w with
  | .bl true => .ok (.bl true) S1
  | .bl false => mb s S1
  | _ => .bad
def mNotV (ma : SM W) : SM W := fun s S => (ma s S).bind fun w S1 => match w with
  | .bl b => .ok (.bl (!b)) S1
  | _ => .bad
theorem pm_one {op : BoolOp} (ha : PM X E a ma) : PM X E (.BoolOp op [a] pos) ma := pe_one ha
theorem pm_and (ha : PM X E a ma) (hb : PM X E (.BoolOp .And (b :: rest) pos) mb) : PM X E (.BoolOp .And (a :: b :: rest) pos) (mAndV ma mb) :=
  pe_imp (pe_and ha hb) fun σ H Q h => tX.bind h fun ρ1 H1 w x s S1 rep env r o => by
    cases w with
    | bl k =>
      cases r
      refine ⟨k, rfl, ?_⟩
      cases k with
      | true => rw [if_pos rfl]; exact ⟨ρ1, s, S1, rep, env, o⟩
      | false => rw [if_neg Bool.false_ne_true]; exact Out.here o rep (.bl false)
    | _ => exact o.elim
theorem pm_or (ha : PM X E a ma) (hb : PM X E (.BoolOp .Or (b :: rest) pos) mb) : PM X E (.BoolOp .Or (a :: b :: rest) pos) (mOrV ma mb) :=
  pe_imp (pe_or ha hb) fun σ H Q h => tX.bind h fun ρ1 H1 w x s S1 rep env r o => by
    cases w with
    | bl k =>
      cases r
      refine ⟨k, rfl, ?_⟩
      cases k with
      | false => rw [if_neg Bool.false_ne_true]; exact ⟨ρ1, s, S1, rep, env, o⟩
      | true => rw [if_pos rfl]; exact Out.here o rep (.bl true)
    | _ => exact o.elim
theorem pm_not (ha : PM X E a ma) : PM X E (.UnaryOp .Not a pos) (mNotV ma) :=
  pe_imp (pe_not ha) fun σ H Q h => tX.bind h fun ρ1 H1 w x s S1 rep env r o => by
    cases w with
    | bl k => cases r; exact ⟨k, rfl, Out.here o rep (.bl _)⟩
    | _ => exact o.elim
def mIfE (nc : SM Bool) (ma mb : SM W) : SM W := fun s S => (nc s S).bind fun k S1 => if k = true then ma s S1 else mb s S1
theorem pm_ifExp (hc : PTM X E c nc) (ha : PM X E a ma) (hb : PM X E b mb) : PM X E (.IfExp c a b pos) (mIfE nc ma mb) :=
  pe_imp (pe_ifExp hc ha hb) fun σ H Q h => tX.bind h fun ρ1 H1 k k' s S1 rep env r o => by
    cases r
    cases k with
    | true => rw [if_pos rfl] at o; rw [if_pos rfl]; exact ⟨ρ1, s, S1, rep, env, o⟩
    | false => rw [if_neg Bool.false_ne_true] at o; rw [if_neg Bool.false_ne_true]; exact ⟨ρ1, s, S1, rep, env, o⟩
/-- a < b < c -/
def mChain (g g' : W → W → Store → Res W) (ma mb mc : SM W) : SM W := fun s S => (ma s S).bind fun x S1 => (mb s S1).bind fun y S2 => (g x y S2).bind fun z S3 => match z with
  | .bl true => (mc s S3).bind fun w S4 => g' y w S4
  | .bl false => .ok (.bl false) S3
  | _ => .bad
theorem chain_of {g g' : W → W → Store → Res W} {σ : L2.St} {H : Hp} {Q : VK} (h : tE X E (mChain g g' ma mb mc) σ H Q) : tChain (R2M X E g) (R2M X E g') (tE X E ma) (tE X E mb) (tE X E mc) σ H Q :=
  tX.bind h fun ρ1 H1 w1 x s S1 rep env r o => ⟨ρ1, s, S1, rep, env, Out.bind o fun ρ2 H2 w2 y S2 e rep2 r2 o2 => ⟨ρ2, S2, w1, w2, rep2, r.ext e, r2, Out.bind o2 fun ρ3 H3 w3 z S3 e3 rep3 r3 o3 => by
    cases w3 with
    | bl k =>
      cases r3
      refine ⟨k, rfl, ?_⟩
      cases k with
      | true => rw [if_pos rfl]; exact ⟨ρ3, s, S3, rep3, (env.ext e).ext e3, Out.bind o3 fun ρ4 H4 w4 x4 S4 e4 rep4 r4 o4 => ⟨ρ4, S4, w2, w4, rep4, (r2.ext e3).ext e4, r4, o4⟩⟩
      | false => rw [if_neg Bool.false_ne_true]; exact Out.here o3 rep3 (.bl false)
    | _ => exact o3.elim⟩⟩
theorem pm_chain {op op' : CmpOp} {g g' : W → W → Store → Res W} (ho : OpM X E (compareOp op) g) (ho' : OpM X E (compareOp op') g') (ha : PM X E a ma) (hb : PM X E b mb) (hc : PM X E c mc) (hm : lastMarks [op, op'] [b, c] = false := by with_unfolding_all rfl) :
    PM X E (.Compare a [op, op'] [b, c] pos) (mChain g g' ma mb mc) := pe_imp (pe_chain ho ho' ha hb hc hm) fun _ _ _ h => chain_of h
theorem ptm_chain {op op' : CmpOp} {g g' : W → W → Store → Res W} (ho : OpM X E (compareOp op) g) (ho' : OpM X E (compareOp op') g') (ha : PM X E a ma) (hb : PM X E b mb) (hc : PM X E c mc) (hm : lastMarks [op, op'] [b, c] = false := by with_unfolding_all rfl) :
    PTM X E (.Compare a [op, op'] [b, c] pos) (fun s S => asB (mChain g g' ma mb mc s S)) := pt_imp (pt_chain ho ho' ha hb hc hm) fun σ H Q ⟨ρ, s, S, rep, env, o⟩ => chain_of ⟨ρ, s, S, rep, env, out_asB o⟩
end
end RL
end

section
set_option maxRecDepth 100000
set_option maxHeartbeats 2000000
namespace RL
open PySem PySem.Spec L2

/-! ### operators by values -/
def gAdd (w1 w2 : W) (S : Store) : Res W := match w1 with
  | .int i => match w2 with
    | .int j => .ok (.int (i + j)) S
    | _ => .bad
  | .str x => match w2 with
    | .str y => if x.length + y.length ≤ lim then .ok (.str (x ++ y)) S else .bad
    | _ => .bad
  | .tup a => match w2 with
    | .tup b => if a.length + b.length ≤ lim then .ok (.tup (a ++ b)) S else .bad
    | _ => .bad
  | w => match seqM S w, seqM S w2 with
    | some a, some b => if a.length + b.length ≤ lim then .ok (.lst (a ++ b)) S else .bad
    | _, _ => .bad
def gI (f : Int → Int → Int) (w1 w2 : W) (S : Store) : Res W := match w1, w2 with
  | .int i, .int j => .ok (.int (f i j)) S
  | _, _ => .bad
def gIc (c : Int → Int → Bool) (f : Int → Int → Int) (w1 w2 : W) (S : Store) : Res W := match w1, w2 with
  | .int i, .int j => if c i j = true then .ok (.int (f i j)) S else .bad
  | _, _ => .bad
def gIb (f : Int → Int → Bool) (w1 w2 : W) (S : Store) : Res W := match w1, w2 with
  | .int i, .int j => .ok (.bl (f i j)) S
  | _, _ => .bad
abbrev gSub := gI fun i j => i - j
def cMul (i j : Int) : Bool := (decide (-(2 ^ 64) < i) && decide (i < 2 ^ 64)) || (decide (-(2 ^ 64) < j) && decide (j < 2 ^ 64))
/-- a product; a list times a number -/
def gMul (w1 w2 : W) (S : Store) : Res W := match w1 with
  | .int i => match w2 with
    | .int j => if cMul i j = true then .ok (.int (i * j)) S else .bad
    | _ => .bad
  | w => match seqM S w, w2 with
    | some a, .int k => if -(2 ^ 63) ≤ k ∧ k < 2 ^ 63 ∧ a.length * k.toNat ≤ lim then .ok (.lst (List.replicate k.toNat a).flatten) S else .bad
    | _, _ => .bad
abbrev gMod := gIc (fun _ j => decide (0 < j)) fun i j => i % j
abbrev gDiv := gIc (fun _ j => decide (0 < j) && decide (j < 1073741824)) fun i j => i / j
abbrev gPow := gIc (fun i j => decide (0 ≤ j) && decide (j ≤ 1000000) && decide (i.natAbs < 2 ^ 64)) fun i j => i ^ j.toNat
abbrev gLt := gIb fun i j => decide (i < j)
abbrev gLe := gIb fun i j => decide (i ≤ j)
abbrev gGt := gIb fun i j => decide (j < i)
abbrev gGe := gIb fun i j => decide (j ≤ i)
section
variable {K : PySem.W.Frag} {mg : Str → Option Value} {ρ : RT} {H : Hp} {S : Store} {E : XK} {Q : VK}
/-- the end of a rule that lays a new tree -/
theorem out_tree {w : W} {p : Addr} {u : HO} (o : Out K mg (RW K mg) E ρ H (.ok w S) Q) (rep : RepS K mg ρ H S) (hp : H p = none) (mk : Ext ρ H ρ (upd H p u) → Fx ρ (upd H p u) p u → RW K mg ρ (upd H p u) w (.ref p)) : Q (.ref p) (upd H p u) := by
  obtain ⟨e, rep'⟩ := rep.tree hp u
  exact o ρ _ _ e rep' (mk e (fx_new rep hp u))
theorem out_lst {ws : List W} {vs : List V} {p : Addr} (o : Out K mg (RW K mg) E ρ H (.ok (.lst ws) S) Q) (rep : RepS K mg ρ H S) (hp : H p = none) (r : RWs K mg ρ H ws vs) : Q (.ref p) (upd H p (.lst vs)) :=
  out_tree o rep hp fun e f => .lst f (r.ext e)
theorem out_tup {ws : List W} {vs : List V} {p : Addr} (o : Out K mg (RW K mg) E ρ H (.ok (.tup ws) S) Q) (rep : RepS K mg ρ H S) (hp : H p = none) (r : RWs K mg ρ H ws vs) : Q (.ref p) (upd H p (.tup vs)) :=
  out_tree o rep hp fun e f => .tup (.inl f) (r.ext e)
theorem RWs.flatten {ws : List W} {vs : List V} (r : RWs K mg ρ H ws vs) : ∀ n : Nat, RWs K mg ρ H (List.replicate n ws).flatten (List.replicate n vs).flatten
  | 0 => .nil
  | n + 1 => by
    rw [List.replicate_succ, List.replicate_succ, List.flatten_cons, List.flatten_cons]
    exact r.append (r.flatten n)
end
section
variable {X : Cx} {E : XK}
theorem om_add : OpM X E (binaryOp .Add) gAdd := by
  intro pins s σ H x y v u Q I rx ry ⟨ρ, S, w1, w2, rep, r1, r2, o⟩
  have lists : (∀ a b, seqM S w1 = some a → seqM S w2 = some b → gAdd w1 w2 S = if a.length + b.length ≤ lim then .ok (.lst (a ++ b)) S else .bad) → (seqM S w1 = none ∨ seqM S w2 = none → gAdd w1 w2 S = .bad) → wpAny (model X.prog X.w) X.A (binaryOp .Add v u) (EP X pins σ Q) X.xe s := fun h1 h2 => by
    cases e1 : seqM S w1 with
    | none => rw [h2 (.inl e1)] at o; exact o.elim
    | some a =>
      cases e2 : seqM S w2 with
      | none => rw [h2 (.inr e2)] at o; exact o.elim
      | some b =>
        rw [h1 a b e1 e2] at o
        split at o
        · rename_i hz
          obtain ⟨p, xs, rfl, hp, q1⟩ := seqM_of rep r1 e1
          obtain ⟨q, ys, rfl, hq, q2⟩ := seqM_of rep r2 e2
          exact op_cat pins s σ H _ _ v u Q I rx ry ⟨p, q, xs, ys, rfl, rfl, hp, hq, by rw [← q1.length, ← q2.length]; exact lim_line hz, fun l hl => out_lst o rep hl (q1.append q2)⟩
        · exact o.elim
  cases w1 with
  | int i =>
    cases w2 with
    | int j => cases r1; cases r2; exact op_add pins s σ H _ _ v u Q I rx ry ⟨i, j, rfl, rfl, Out.here o rep (.int _)⟩
    | _ => exact o.elim
  | str a =>
    cases w2 with
    | str b =>
      cases r1; cases r2
      have o : Out X.K X.mg (RW X.K X.mg) E ρ H (if a.length + b.length ≤ lim then Res.ok (W.str (a ++ b)) S else Res.bad) Q := o
      split at o
      · rename_i hz; exact op_add_str pins s σ H _ _ v u Q I rx ry ⟨a, b, rfl, rfl, lim_line hz, Out.here o rep (.str _)⟩
      · exact o.elim
    | _ => exact o.elim
  | tup a =>
    cases w2 with
    | tup b =>
      have o : Out X.K X.mg (RW X.K X.mg) E ρ H (if a.length + b.length ≤ lim then Res.ok (W.tup (a ++ b)) S else Res.bad) Q := o
      split at o
      · rename_i hz
        cases r1 with
        | tup h1 q1 =>
          cases r2 with
          | tup h2 q2 =>
            refine op_catA pins s σ H _ _ v u Q I rx ry ⟨_, _, _, _, rfl, rfl, sqT_of h1, sqT_of h2, by rw [← q1.length, ← q2.length]; exact lim_line hz, fun e => ?_, fun _ e => ?_, fun _ _ p hp => ?_⟩
            · subst e
              have : a = [] := by cases q1; rfl
              subst this
              exact Out.here o rep (.tup h2 q2)
            · subst e
              have : b = [] := by cases q2; rfl
              subst this
              rw [List.append_nil] at o
              exact Out.here o rep (.tup h1 q1)
            · exact out_tup o rep hp (q1.append q2)
      · exact o.elim
    | _ => exact o.elim
  | lst a => exact lists (fun a b e1 e2 => by simp only [gAdd, e1, e2]) (fun h => by rcases h with h | h <;> simp only [gAdd, h] <;> cases seqM S (W.lst a) <;> rfl)
  | ref a => exact lists (fun a b e1 e2 => by simp only [gAdd, e1, e2]) (fun h => by rcases h with h | h <;> simp only [gAdd, h] <;> cases seqM S (W.ref a) <;> rfl)
  | _ => exact o.elim
theorem om_I {f : Value → Value → Sem Value} {g : Int → Int → Int} (h : OpR X f (rI0 fun i j => .int (g i j))) : OpM X E f (gI g) := by
  intro pins s σ H x y v u Q I rx ry ⟨ρ, S, w1, w2, rep, r1, r2, o⟩
  cases w1 with
  | int i =>
    cases w2 with
    | int j => cases r1; cases r2; exact h pins s σ H _ _ v u Q I rx ry ⟨i, j, rfl, rfl, Out.here o rep (.int _)⟩
    | _ => exact o.elim
  | _ => exact o.elim
theorem om_Ib {f : Value → Value → Sem Value} {g : Int → Int → Bool} (h : OpR X f (rI0 fun i j => .bl (g i j))) : OpM X E f (gIb g) := by
  intro pins s σ H x y v u Q I rx ry ⟨ρ, S, w1, w2, rep, r1, r2, o⟩
  cases w1 with
  | int i =>
    cases w2 with
    | int j => cases r1; cases r2; exact h pins s σ H _ _ v u Q I rx ry ⟨i, j, rfl, rfl, Out.here o rep (.bl _)⟩
    | _ => exact o.elim
  | _ => exact o.elim
theorem om_Ic {f : Value → Value → Sem Value} {c : Int → Int → Bool} {C : Int → Int → Prop} {g : Int → Int → Int} (h : OpR X f (rI C fun i j => .int (g i j))) (hc : ∀ i j, c i j = true → C i j) : OpM X E f (gIc c g) := by
  intro pins s σ H x y v u Q I rx ry ⟨ρ, S, w1, w2, rep, r1, r2, o⟩
  cases w1 with
  | int i =>
    cases w2 with
    | int j =>
      cases r1; cases r2
      have o : Out X.K X.mg (RW X.K X.mg) E ρ H (if c i j = true then Res.ok (W.int (g i j)) S else Res.bad) Q := o
      split at o
      · rename_i hz; exact h pins s σ H _ _ v u Q I rx ry ⟨i, j, rfl, rfl, hc i j hz, Out.here o rep (.int _)⟩
      · exact o.elim
    | _ => exact o.elim
  | _ => exact o.elim
theorem om_sub : OpM X E (binaryOp .Sub) gSub := om_I op_sub
theorem om_mod : OpM X E (binaryOp .Mod) gMod := om_Ic op_mod fun _ _ h => of_decide_eq_true h
theorem om_div : OpM X E (binaryOp .FloorDiv) gDiv := om_Ic op_fdiv fun _ _ h => by simp only [Bool.and_eq_true, decide_eq_true_eq] at h; exact h
theorem om_pow : OpM X E (binaryOp .Pow) gPow := om_Ic op_pow fun _ _ h => by simp only [Bool.and_eq_true, decide_eq_true_eq] at h; exact ⟨h.1.1, h.1.2, h.2⟩
theorem om_lt : OpM X E (compareOp .Lt) gLt := om_Ib op_lt
theorem om_le : OpM X E (compareOp .LtE) gLe := om_Ib op_le
theorem om_gt : OpM X E (compareOp .Gt) gGt := om_Ib op_gt
theorem om_ge : OpM X E (compareOp .GtE) gGe := om_Ib op_ge
theorem om_mul : OpM X E (binaryOp .Mult) gMul := by
  intro pins s σ H x y v u Q I rx ry ⟨ρ, S, w1, w2, rep, r1, r2, o⟩
  have lists : (∀ a k, seqM S w1 = some a → w2 = .int k → gMul w1 w2 S = if -(2 ^ 63) ≤ k ∧ k < 2 ^ 63 ∧ a.length * k.toNat ≤ lim then .ok (.lst (List.replicate k.toNat a).flatten) S else .bad) → (seqM S w1 = none ∨ (∀ k, w2 ≠ .int k) → gMul w1 w2 S = .bad) → wpAny (model X.prog X.w) X.A (binaryOp .Mult v u) (EP X pins σ Q) X.xe s := fun h1 h2 => by
    cases e1 : seqM S w1 with
    | none => rw [h2 (.inl e1)] at o; exact o.elim
    | some a =>
      cases w2 with
      | int k =>
        rw [h1 a k e1 rfl] at o
        split at o
        · rename_i hz
          obtain ⟨p, xs, rfl, hp, q1⟩ := seqM_of rep r1 e1
          cases r2
          exact op_rep pins s σ H _ _ v u Q I rx ry ⟨p, k, xs, rfl, rfl, hp, hz.1, hz.2.1, by rw [← q1.length]; exact lim_line hz.2.2, fun l hl => out_lst o rep hl (q1.flatten _)⟩
        · exact o.elim
      | _ => rw [h2 (.inr (by intro k e; cases e))] at o; exact o.elim
  cases w1 with
  | int i =>
    cases w2 with
    | int j =>
      cases r1; cases r2
      have o : Out X.K X.mg (RW X.K X.mg) E ρ H (if cMul i j = true then Res.ok (W.int (i * j)) S else Res.bad) Q := o
      split at o
      · rename_i hz
        refine op_mul pins s σ H _ _ v u Q I rx ry ⟨i, j, rfl, rfl, ?_, Out.here o rep (.int _)⟩
        simp only [cMul, Bool.or_eq_true, Bool.and_eq_true, decide_eq_true_eq] at hz
        exact hz
      · exact o.elim
    | _ => exact o.elim
  | lst a => exact lists (fun a k e1 e2 => by subst e2; simp only [gMul, e1]) (fun h => by
      rcases h with h | h
      · simp only [gMul, h]
      · simp only [gMul]; split <;> first | rfl | exact absurd rfl (h _))
  | ref a => exact lists (fun a k e1 e2 => by subst e2; simp only [gMul, e1]) (fun h => by
      rcases h with h | h
      · simp only [gMul, h]
      · simp only [gMul]; split <;> first | rfl | exact absurd rfl (h _))
  | _ => exact o.elim
end

/-! ### ==, !=, in, not in, is -/
mutual
def toD : W → Option PyData
  | .non => some .none
  | .bl b => some (.bool b)
  | .int i => some (.int i)
  | .str x => some (.str x)
  | .tup ws => (toDs ws).map .tuple
  | .lst ws => (toDs ws).map .list
  | .flst ws => (toDs ws).map .list
  | _ => none
def toDs : List W → Option (List PyData)
  | [] => some []
  | w :: ws => match toD w, toDs ws with
    | some d, some ds => some (d :: ds)
    | _, _ => none
end
section
variable {K : PySem.W.Frag} {mg : Str → Option Value} {ρ : RT} {H : Hp} {S : Store}
mutual
theorem toD_dp : ∀ {w : W} {v : V} {d : PyData}, RW K mg ρ H w v → toD w = some d → Dp K H v d
  | _, _, _, .non, h => by cases (Option.some.inj h : PyData.none = _); exact .non
  | _, _, _, .bl b, h => by cases (Option.some.inj h : PyData.bool b = _); exact .bl b
  | _, _, _, .int i, h => by cases (Option.some.inj h : PyData.int i = _); exact .int i
  | _, _, _, .str x, h => by cases (Option.some.inj h : PyData.str x = _); exact .str x
  | _, _, _, .tup (ws := ws) hf r, h => by
    cases e : toDs ws with
    | none => simp [toD, e] at h
    | some ds => simp [toD, e] at h; subst h; exact .tup (sqT_of hf) (toDs_dp r e)
  | _, _, _, .lst (ws := ws) hf r, h => by
    cases e : toDs ws with
    | none => simp [toD, e] at h
    | some ds => simp [toD, e] at h; subst h; exact .lst (.inl (.inl hf.1)) (toDs_dp r e)
  | _, _, _, .flst (ws := ws) hf r, h => by
    cases e : toDs ws with
    | none => simp [toD, e] at h
    | some ds => simp [toD, e] at h; subst h; exact .lst (sqF_of hf) (toDs_dp r e)
  | _, _, _, .ty _, h => by cases h
  | _, _, _, .gl _, h => by cases h
  | _, _, _, .ref _, h => by cases h
  | _, _, _, .dic _ _ _, h => by cases h
  | _, _, _, .ins _ _ _ _, h => by cases h
theorem toDs_dp : ∀ {ws : List W} {vs : List V} {ds : List PyData}, RWs K mg ρ H ws vs → toDs ws = some ds → DpAll K H vs ds
  | _, _, _, .nil, h => by cases (Option.some.inj h : [] = _); exact .nil
  | _, _, _, .cons (w := w) (ws := ws) r t, h => by
    cases e1 : toD w with
    | none => simp [toDs, e1] at h
    | some d =>
      cases e2 : toDs ws with
      | none => simp [toDs, e1, e2] at h
      | some ds => simp [toDs, e1, e2] at h; subst h; exact .cons (toD_dp r e1) (toDs_dp t e2)
end
/-- a list of the store is read at its top -/
def toDT (S : Store) (w : W) : Option PyData := match w with
  | .ref _ => match seqM S w with
    | some ws => (toDs ws).map .list
    | none => none
  | w => toD w
theorem toDT_dp {w : W} {v : V} {d : PyData} (rep : RepS K mg ρ H S) (r : RW K mg ρ H w v) (h : toDT S w = some d) : Dp K H v d := by
  cases w with
  | ref l =>
    cases e : seqM S (.ref l) with
    | none => simp [toDT, e] at h
    | some ws =>
      obtain ⟨a, vs, rfl, hs, hr⟩ := seqM_of rep r e
      cases e2 : toDs ws with
      | none => simp [toDT, e, e2] at h
      | some ds => simp [toDT, e, e2] at h; subst h; exact .lst (.inl (.inl hs)) (toDs_dp hr e2)
  | _ => exact toD_dp r h
end
def xorB (neg b : Bool) : Bool := if neg then !b else b
/-- == (neg: !=) -/
def gEq (neg : Bool) (w1 w2 : W) (S : Store) : Res W := match w1, w2 with
  | .str x, .str y => .ok (.bl (xorB neg (decide (x = y)))) S
  | .int x, .int y => .ok (.bl (xorB neg (decide (x = y)))) S
  | .bl x, .bl y => .ok (.bl (xorB neg (decide (x = y)))) S
  | w1, w2 => match toDT S w1, toDT S w2 with
    | some d, some e => if SeqAt.shaped d = true ∧ SeqAt.shaped e = true then .ok (.bl (xorB neg (PyData.eqv d e))) S else .bad
    | _, _ => .bad
section
variable {X : Cx} {E : XK}
theorem gEq_deep {neg : Bool} {w1 w2 : W} {S : Store} (h : (∀ x y, w1 = .str x → w2 = .str y → False) ∧ (∀ x y, w1 = .int x → w2 = .int y → False) ∧ (∀ x y, w1 = .bl x → w2 = .bl y → False)) :
    gEq neg w1 w2 S = match toDT S w1, toDT S w2 with
    | some d, some e => if SeqAt.shaped d = true ∧ SeqAt.shaped e = true then .ok (.bl (xorB neg (PyData.eqv d e))) S else .bad
    | _, _ => .bad := by
  unfold gEq
  split
  · exact (h.1 _ _ rfl rfl).elim
  · exact (h.2.1 _ _ rfl rfl).elim
  · exact (h.2.2 _ _ rfl rfl).elim
  · rfl
theorem om_eqs {op : CmpOp} {neg : Bool} (hs : OpR X (compareOp op) (fun x y H Q => scal x y = true ∧ Q (.bl (xorB neg (decide (x = y)))) H))
    (hd : OpR X (compareOp op) (fun x y H Q => ∃ d e, Dp X.K H x d ∧ Dp X.K H y e ∧ SeqAt.shaped d = true ∧ SeqAt.shaped e = true ∧ Q (.bl (xorB neg (PyData.eqv d e))) H)) : OpM X E (compareOp op) (gEq neg) := by
  intro pins s σ H x y v u Q I rx ry ⟨ρ, S, w1, w2, rep, r1, r2, o⟩
  have deep : (∀ x y, w1 = .str x → w2 = .str y → False) ∧ (∀ x y, w1 = .int x → w2 = .int y → False) ∧ (∀ x y, w1 = .bl x → w2 = .bl y → False) → wpAny (model X.prog X.w) X.A (compareOp op v u) (EP X pins σ Q) X.xe s := fun h => by
    rw [gEq_deep h] at o
    cases e1 : toDT S w1 with
    | none => rw [e1] at o; exact o.elim
    | some d =>
      cases e2 : toDT S w2 with
      | none => rw [e1, e2] at o; exact o.elim
      | some e =>
        rw [e1, e2] at o
        dsimp only at o
        split at o
        · rename_i hz; exact hd pins s σ H x y v u Q I rx ry ⟨d, e, toDT_dp rep r1 e1, toDT_dp rep r2 e2, hz.1, hz.2, Out.here o rep (.bl _)⟩
        · exact o.elim
  cases w1 with
  | str a =>
    cases w2 with
    | str b =>
      cases r1; cases r2
      have e : decide (V.str a = V.str b) = decide (a = b) := by rw [decide_eq_decide]; exact ⟨fun z => V.str.inj z, fun z => by rw [z]⟩
      exact hs pins s σ H _ _ v u Q I rx ry ⟨rfl, by rw [e]; exact Out.here (w := W.bl (xorB neg (decide (a = b)))) o rep (.bl _)⟩
    | _ => exact deep ⟨fun _ _ _ z => (by cases z), fun _ _ z _ => (by cases z), fun _ _ z _ => (by cases z)⟩
  | int a =>
    cases w2 with
    | int b =>
      cases r1; cases r2
      have e : decide (V.int a = V.int b) = decide (a = b) := by rw [decide_eq_decide]; exact ⟨fun z => V.int.inj z, fun z => by rw [z]⟩
      exact hs pins s σ H _ _ v u Q I rx ry ⟨rfl, by rw [e]; exact Out.here (w := W.bl (xorB neg (decide (a = b)))) o rep (.bl _)⟩
    | _ => exact deep ⟨fun _ _ z _ => (by cases z), fun _ _ _ z => (by cases z), fun _ _ z _ => (by cases z)⟩
  | bl a =>
    cases w2 with
    | bl b =>
      cases r1; cases r2
      have e : decide (V.bl a = V.bl b) = decide (a = b) := by rw [decide_eq_decide]; exact ⟨fun z => V.bl.inj z, fun z => by rw [z]⟩
      exact hs pins s σ H _ _ v u Q I rx ry ⟨rfl, by rw [e]; exact Out.here (w := W.bl (xorB neg (decide (a = b)))) o rep (.bl _)⟩
    | _ => exact deep ⟨fun _ _ z _ => (by cases z), fun _ _ z _ => (by cases z), fun _ _ _ z => (by cases z)⟩
  | _ => exact deep ⟨fun _ _ z _ => (by cases z), fun _ _ z _ => (by cases z), fun _ _ z _ => (by cases z)⟩
theorem om_eq (hu : X.A.units + 64 < cLine) : OpM X E (compareOp .Eq) (gEq false) := om_eqs (neg := false) op_eq (op_eqD hu)
theorem om_ne (hu : X.A.units + 64 < cLine) : OpM X E (compareOp .NotEq) (gEq true) := om_eqs (neg := true) op_ne (op_neD hu)
end
def flatW : W → Bool
  | .non | .bl _ | .int _ | .str _ => true
  | _ => false
def eqF : W → W → Bool
  | .non, .non => true
  | .bl a, .bl b => a == b
  | .bl a, .int b => (if a then 1 else 0) == b
  | .int a, .bl b => a == (if b then 1 else 0)
  | .int a, .int b => a == b
  | .str a, .str b => a == b
  | _, _ => false
def inW (x : W) (ws : List W) : Bool := ws.any fun y => eqF y x
def tupL : W → Option (List W)
  | .tup ws => some ws
  | _ => none
/-- in (neg: not in): a text in a text; a flat value in a list or tuple of flat ones; data in a list of data -/
def gIn (neg : Bool) (w1 w2 : W) (S : Store) : Res W := match w1, w2 with
  | .str x, .str y => .ok (.bl (xorB neg (!(Builtin.Str.occurrences y x 0 y.length 1).isEmpty))) S
  | w1, w2 => match (tupL w2).or (seqL S w2) with
    | some ws => if flatW w1 = true ∧ ws.all flatW = true then .ok (.bl (xorB neg (inW w1 ws))) S else match toD w1, toDs ws with
      | some d, some ds => if (tupL w2).isNone = true ∧ SeqAt.shaped d = true ∧ SeqAt.shaped (.list ds) = true then .ok (.bl (xorB neg (ds.any fun z => PyData.eqv z d))) S else .bad
      | _, _ => .bad
    | none => .bad
section
variable {K : PySem.W.Frag} {mg : Str → Option Value} {ρ : RT} {H : Hp} {S : Store}
theorem flat_of {w : W} {v : V} (r : RW K mg ρ H w v) (h : flatW w = true) : flatV v = true := by
  cases r <;> first | rfl | cases h
theorem flats_of : ∀ {ws : List W} {vs : List V}, RWs K mg ρ H ws vs → ws.all flatW = true → vs.all flatV = true
  | _, _, .nil, _ => rfl
  | _, _, .cons r t, h => by
    rw [List.all_cons, Bool.and_eq_true] at h ⊢
    exact ⟨flat_of r h.1, flats_of t h.2⟩
theorem eqF_of {w w' : W} {v v' : V} (r : RW K mg ρ H w v) (r' : RW K mg ρ H w' v') (h : flatW w = true) (h' : flatW w' = true) : eqV v v' = eqF w w' := by
  cases r <;> first | (cases h; done) | (cases r' <;> first | rfl | (cases h'; done))
theorem inW_of {w : W} {v : V} (r : RW K mg ρ H w v) (h : flatW w = true) : ∀ {ws : List W} {vs : List V}, RWs K mg ρ H ws vs → ws.all flatW = true → inV v vs = inW w ws
  | _, _, .nil, _ => rfl
  | _, _, .cons r1 t, h1 => by
    rw [List.all_cons, Bool.and_eq_true] at h1
    have ih := inW_of r h t h1.2
    unfold inV inW at ih ⊢
    rw [List.any_cons, List.any_cons, eqF_of r1 r h1.1 h, ih]
end
section
variable {X : Cx} {E : XK}
theorem gIn_seq {neg : Bool} {w1 w2 : W} {S : Store} (h : ∀ x y, w1 = .str x → w2 = .str y → False) : gIn neg w1 w2 S = match (tupL w2).or (seqL S w2) with
    | some ws => if flatW w1 = true ∧ ws.all flatW = true then .ok (.bl (xorB neg (inW w1 ws))) S else match toD w1, toDs ws with
      | some d, some ds => if (tupL w2).isNone = true ∧ SeqAt.shaped d = true ∧ SeqAt.shaped (.list ds) = true then .ok (.bl (xorB neg (ds.any fun z => PyData.eqv z d))) S else .bad
      | _, _ => .bad
    | none => .bad := by
  unfold gIn
  split
  · exact (h _ _ rfl rfl).elim
  · rfl
theorem om_ins {op : CmpOp} {neg : Bool} (h1 : OpR X (compareOp op) (fun x y H Q => ∃ i j, x = .str i ∧ y = .str j ∧ Q (.bl (xorB neg (!(Builtin.Str.occurrences j i 0 j.length 1).isEmpty))) H))
    (h2 : OpR X (compareOp op) (rIn X.K neg)) (h3 : OpR X (compareOp op) (fun x y H Q => ∃ d ds, Dp X.K H x d ∧ Dp X.K H y (.list ds) ∧ SeqAt.shaped d = true ∧ SeqAt.shaped (.list ds) = true ∧ Q (.bl (xorB neg (ds.any fun z => PyData.eqv z d))) H)) : OpM X E (compareOp op) (gIn neg) := by
  intro pins s σ H x y v u Q I rx ry ⟨ρ, S, w1, w2, rep, r1, r2, o⟩
  have seq : (∀ x y, w1 = .str x → w2 = .str y → False) → wpAny (model X.prog X.w) X.A (compareOp op v u) (EP X pins σ Q) X.xe s := fun h => by
    rw [gIn_seq h] at o
    cases e0 : (tupL w2).or (seqL S w2) with
    | none => rw [e0] at o; exact o.elim
    | some ws =>
      rw [e0] at o
      dsimp only at o
      have lies : ∃ a vs, y = .ref a ∧ (SqL X.K H a vs ∨ SqT X.K H a vs) ∧ RWs X.K X.mg ρ H ws vs ∧ ((tupL w2).isNone = true → SqL X.K H a vs) := by
        cases w2 with
        | tup us => cases (Option.some.inj e0 : us = ws); cases r2 with | tup hf hr => exact ⟨_, _, rfl, .inr (sqT_of hf), hr, fun z => (by cases z)⟩
        | _ => obtain ⟨a, vs, rfl, hs, hr⟩ := seqL_of rep r2 (by simpa [tupL] using e0); exact ⟨a, vs, rfl, .inl hs, hr, fun _ => hs⟩
      obtain ⟨a, vs, rfl, hs, hr, hl⟩ := lies
      split at o
      · rename_i hz
        have q := Out.here o rep (.bl _)
        rw [← inW_of r1 hz.1 hr hz.2] at q
        exact h2 pins s σ H x _ v u Q I rx ry ⟨a, vs, rfl, hs, flat_of r1 hz.1, flats_of hr hz.2, q⟩
      · cases e1 : toD w1 with
        | none => rw [e1] at o; exact o.elim
        | some d =>
          cases e2 : toDs ws with
          | none => rw [e1, e2] at o; exact o.elim
          | some ds =>
            rw [e1, e2] at o
            dsimp only at o
            split at o
            · rename_i hz
              exact h3 pins s σ H x _ v u Q I rx ry ⟨d, ds, toD_dp r1 e1, .lst (hl hz.1) (toDs_dp hr e2), hz.2.1, hz.2.2, Out.here o rep (.bl _)⟩
            · exact o.elim
  cases w1 with
  | str a =>
    cases w2 with
    | str b => cases r1; cases r2; exact h1 pins s σ H _ _ v u Q I rx ry ⟨a, b, rfl, rfl, Out.here (w := W.bl _) o rep (.bl _)⟩
    | _ => exact seq fun _ _ _ z => by cases z
  | _ => exact seq fun _ _ z _ => by cases z
theorem om_in (hu : X.A.units + 65 < cLine) : OpM X E (compareOp .In) (gIn false) := om_ins (neg := false) op_in_str op_in_seq (op_inD hu)
theorem om_notIn (hu : X.A.units + 65 < cLine) : OpM X E (compareOp .NotIn) (gIn true) := om_ins (neg := true) op_notIn_str op_notIn_seq (op_notInD hu)
end
def isNonW : W → Bool
  | .non => true
  | _ => false
/-- is (neg: is not): with None, or two bools -/
def gIs (neg : Bool) (w1 w2 : W) (S : Store) : Res W := match w2 with
  | .non => .ok (.bl (xorB neg (isNonW w1))) S
  | .bl b => match w1 with
    | .bl a => .ok (.bl (xorB neg (decide (a = b)))) S
    | _ => .bad
  | _ => .bad
section
variable {X : Cx} {E : XK}
theorem om_iss {op : CmpOp} {neg : Bool} (h1 : OpR X (compareOp op) (fun x y H Q => y = .non ∧ Q (.bl (xorB neg (decide (x = .non)))) H)) (h2 : OpR X (compareOp op) (fun x y H Q => ∃ a b : Bool, x = .bl a ∧ y = .bl b ∧ Q (.bl (xorB neg (decide (a = b)))) H)) : OpM X E (compareOp op) (gIs neg) := by
  intro pins s σ H x y v u Q I rx ry ⟨ρ, S, w1, w2, rep, r1, r2, o⟩
  cases w2 with
  | non =>
    cases r2
    have e : decide (x = .non) = isNonW w1 := by cases r1 <;> first | rfl | (exact decide_eq_false (fun z => by cases z))
    exact h1 pins s σ H _ _ v u Q I rx ry ⟨rfl, by rw [e]; exact Out.here (w := W.bl _) o rep (.bl _)⟩
  | bl b =>
    cases w1 with
    | bl a => cases r1; cases r2; exact h2 pins s σ H _ _ v u Q I rx ry ⟨a, b, rfl, rfl, Out.here (w := W.bl _) o rep (.bl _)⟩
    | _ => exact o.elim
  | _ => exact o.elim
theorem om_is : OpM X E (compareOp .Is) (gIs false) := om_iss (neg := false) op_isN op_isBl
theorem om_isNot : OpM X E (compareOp .IsNot) (gIs true) := om_iss (neg := true) op_notN op_notBl
theorem um_neg : UnM X E (unaryOp .USub) (fun w S => match w with
    | .int i => .ok (.int (-i)) S
    | _ => .bad) := by
  intro pins s σ H x v Q I rx ⟨ρ, S, w, rep, r, o⟩
  cases w with
  | int i => cases r; exact un_neg pins s σ H _ v Q I rx ⟨i, rfl, Out.here (w := W.int _) o rep (.int _)⟩
  | _ => exact o.elim
end
end RL
end

section
set_option maxRecDepth 100000
set_option maxHeartbeats 2000000
namespace RL
open PySem PySem.Spec L2
open PyProof.Rows hiding St

/-! ### a[i], a[lo:hi] -/
def gIx (w1 w2 : W) (S : Store) : Res W := match w2 with
  | .int i => match w1 with
    | .str z => if z.length ≤ lim then match atI z.cps.toList i with
      | some c => .ok (.str ⟨#[c]⟩) S
      | none => .bad else .bad
    | .tup ws => match atI ws i with
      | some w => .ok w S
      | none => .bad
    | w => match (seqL S w).bind fun ws => atI ws i with
      | some w => .ok w S
      | none => .bad
  | _ => .bad
theorem atI_rws {K : PySem.W.Frag} {mg : Str → Option Value} {ρ : RT} {H : Hp} {ws : List W} {vs : List V} {i : Int} {w : W} (r : RWs K mg ρ H ws vs) (h : atI ws i = some w) : ∃ v, atI vs i = some v ∧ RW K mg ρ H w v := by
  unfold atI at h ⊢
  rw [r.length] at h
  cases e : ixN vs.length i with
  | none => rw [e] at h; cases h
  | some j =>
    rw [e] at h
    exact r.get (i := j) h
section
variable {X : Cx} {E : XK} {pos p2 : Pos} {a b : Expr} {ma mb : SM W}
theorem ix_all : IxR X (R2M X E gIx) := by
  intro value slice pins s σ H x y v u Q I rx ry ⟨ρ, S, w1, w2, rep, r1, r2, o⟩ hs
  cases w2 with
  | int i =>
    have lists : (∀ w, ((seqL S w1).bind fun ws => atI ws i) = some w → gIx w1 (.int i) S = .ok w S) → (((seqL S w1).bind fun ws => atI ws i) = none → gIx w1 (.int i) S = .bad) → wpAny (model X.prog X.w) X.A (subscriptTail value slice v u) (EP X pins σ Q) X.xe s := fun h1 h2 => by
      cases e : (seqL S w1).bind fun ws => atI ws i with
      | none => rw [h2 e] at o; exact o.elim
      | some w =>
        rw [h1 w e] at o
        cases e1 : seqL S w1 with
        | none => rw [e1] at e; cases e
        | some ws =>
          rw [e1] at e
          obtain ⟨p, vs, rfl, hl, hr⟩ := seqL_of rep r1 e1
          obtain ⟨v', h3, h4⟩ := atI_rws hr e
          cases r2
          exact ix_list value slice pins s σ H _ _ v u Q I rx ry ⟨p, vs, i, v', rfl, rfl, hl, h3, Out.here o rep h4⟩ hs
    cases w1 with
    | str z =>
      have o : Out X.K X.mg (RW X.K X.mg) E ρ H (if z.length ≤ lim then (match atI z.cps.toList i with
        | some c => Res.ok (W.str ⟨#[c]⟩) S
        | none => Res.bad) else Res.bad) Q := o
      split at o
      · rename_i hz
        cases e : atI z.cps.toList i with
        | none => rw [e] at o; exact o.elim
        | some c =>
          rw [e] at o
          cases r1; cases r2
          exact ix_str value slice pins s σ H _ _ v u Q I rx ry ⟨z, i, c, rfl, rfl, lim_line hz, e, Out.here o rep (.str _)⟩ hs
      · exact o.elim
    | tup ws =>
      have o : Out X.K X.mg (RW X.K X.mg) E ρ H (match atI ws i with
        | some w => Res.ok w S
        | none => Res.bad) Q := o
      cases e : atI ws i with
      | none => rw [e] at o; exact o.elim
      | some w =>
        rw [e] at o
        cases r1 with
        | tup hf hr =>
          obtain ⟨v', h3, h4⟩ := atI_rws hr e
          cases r2
          exact ix_tup value slice pins s σ H _ _ v u Q I rx ry ⟨_, _, i, v', rfl, rfl, sqT_of hf, h3, Out.here o rep h4⟩ hs
    | lst ws => exact lists (fun w e => by simp only [gIx, e]) (fun e => by simp only [gIx, e])
    | flst ws => exact lists (fun w e => by simp only [gIx, e]) (fun e => by simp only [gIx, e])
    | ref l => exact lists (fun w e => by simp only [gIx, e]) (fun e => by simp only [gIx, e])
    | _ => exact o.elim
  | _ => exact o.elim
theorem pm_ix (ha : PM X E a ma) (hb : PM X E b mb) (hs : PlainIx b := by exact fun _ _ => rfl) : PM X E (.Subscript a b pos) (mBin gIx ma mb) := pe_imp (pe_ix ix_all ha hb hs) fun _ _ _ h => t2_of h

def POM (X : Cx) (E : XK) (e : Option Expr) (m : SM (Option Int)) : Prop := PO X e (tX X.K X.mg (fun _ _ a b => a = b) E m)
def mNoPart : SM (Option Int) := fun _ S => .ok none S
def mPart (m : SM W) : SM (Option Int) := fun s S => (m s S).bind fun w S1 => match w with
  | .int i => .ok (some i) S1
  | _ => .bad
theorem po_imp {e : Option Expr} {t t' : TO} (h : PO X e t) (f : ∀ σ H Q, t' σ H Q → t σ H Q) : PO X e t' := ⟨fun pins s σ H Q I q => h.run pins s σ H Q I (f σ H Q q)⟩
theorem pom_none : POM X E none mNoPart := po_imp po_none fun σ H Q ⟨ρ, s, S, rep, env, o⟩ => Out.here o rep rfl
theorem pom_some (h : PM X E a ma) : POM X E (some a) (mPart ma) := po_imp (po_some h) fun σ H Q q => tX.bind q fun ρ1 H1 w x s S1 rep env r o => by
  cases w with
  | int i => cases r; exact ⟨i, rfl, Out.here o rep rfl⟩
  | _ => exact o.elim
def cutW (xs : List W) (lo hi : Option Int) : List W := (xs.drop (HT.sIx xs.length 0 lo)).take (HT.sIx xs.length xs.length hi - HT.sIx xs.length 0 lo)
theorem RWs.cut {K : PySem.W.Frag} {mg : Str → Option Value} {ρ : RT} {H : Hp} {ws : List W} {vs : List V} (r : RWs K mg ρ H ws vs) (lo hi : Option Int) : RWs K mg ρ H (cutW ws lo hi) (cutV vs lo hi) := by
  unfold cutW cutV
  rw [r.length]
  exact (r.drop _).take _
theorem cutW_whole {ws : List W} {lo hi : Option Int} (h : HT.sIx ws.length 0 lo = 0 ∧ HT.sIx ws.length ws.length hi = ws.length) : cutW ws lo hi = ws := by
  unfold cutW
  rw [h.1, h.2, List.drop_zero, Nat.sub_zero, List.take_length]
def gSl (w : W) (lo hi : Option Int) (S : Store) : Res W := match w with
  | .str z => if z.length ≤ lim then .ok (.str (cutS z lo hi)) S else .bad
  | .tup ws => .ok (.tup (cutW ws lo hi)) S
  | w => match seqL S w with
    | some ws => .ok (.lst (cutW ws lo hi)) S
    | none => .bad
theorem sl_all : SlR X (fun x lo hi H Q => ∃ ρ S w, RepS X.K X.mg ρ H S ∧ RW X.K X.mg ρ H w x ∧ Out X.K X.mg (RW X.K X.mg) E ρ H (gSl w lo hi S) Q) := by
  intro pins s σ H x v vl vu lo hi sl Q I rx hs pl pu ⟨ρ, S, w, rep, r, o⟩
  have lists : (∀ ws, seqL S w = some ws → gSl w lo hi S = .ok (.lst (cutW ws lo hi)) S) → (seqL S w = none → gSl w lo hi S = .bad) → ∃ T id, typeLookup (.type T) "__getitem__" = pure (some (.builtin id)) ∧ s.TypeIs v T ∧ wpAny (model X.prog X.w) X.A (getItem v (.ref sl)) (EP X pins σ Q) X.xe s := fun h1 h2 => by
    cases e : seqL S w with
    | none => rw [h2 e] at o; exact o.elim
    | some ws =>
      rw [h1 ws e] at o
      obtain ⟨a, vs, rfl, hl, hr⟩ := seqL_of rep r e
      exact sl_list pins s σ H _ v vl vu lo hi sl Q I rx hs pl pu ⟨a, vs, rfl, hl, fun p hp => out_lst o rep hp (hr.cut lo hi)⟩
  cases w with
  | str z =>
    have o : Out X.K X.mg (RW X.K X.mg) E ρ H (if z.length ≤ lim then Res.ok (W.str (cutS z lo hi)) S else Res.bad) Q := o
    split at o
    · rename_i hz
      cases r
      exact sl_str pins s σ H _ v vl vu lo hi sl Q I rx hs pl pu ⟨z, rfl, lim_line hz, Out.here o rep (.str _)⟩
    · exact o.elim
  | tup ws =>
    cases r with
    | tup hf hr =>
      have o : Out X.K X.mg (RW X.K X.mg) E ρ H (Res.ok (W.tup (cutW ws lo hi)) S) Q := o
      refine sl_tupA pins s σ H _ v vl vu lo hi sl Q I rx hs pl pu ⟨_, _, rfl, sqT_of hf, fun h => ?_, fun _ p hp => out_tup o rep hp (hr.cut lo hi)⟩
      rw [← hr.length] at h
      rw [cutW_whole h] at o
      exact Out.here o rep (.tup hf hr)
  | lst ws => exact lists (fun ws e => by simp only [gSl, e]) (fun e => by simp only [gSl, e])
  | flst ws => exact lists (fun ws e => by simp only [gSl, e]) (fun e => by simp only [gSl, e])
  | ref l => exact lists (fun ws e => by simp only [gSl, e]) (fun e => by simp only [gSl, e])
  | _ => exact o.elim
def mSl (ma : SM W) (ml mh : SM (Option Int)) : SM W := fun s S => (ma s S).bind fun w S1 => (ml s S1).bind fun lo S2 => (mh s S2).bind fun hi S3 => gSl w lo hi S3
theorem pm_slice {lo hi : Option Expr} {ml mh : SM (Option Int)} (ha : PM X E a ma) (hl : POM X E lo ml) (hh : POM X E hi mh) : PM X E (.Subscript a (.Slice lo hi none p2) pos) (mSl ma ml mh) :=
  pe_imp (pe_slice sl_all ha hl hh) fun σ H Q h => tX.bind h fun ρ1 H1 w x s S1 rep env r o => ⟨ρ1, s, S1, rep, env, Out.bind o fun ρ2 H2 l l' S2 e2 rep2 r2 o2 => ⟨ρ2, s, S2, rep2, env.ext e2, Out.bind o2 fun ρ3 H3 k k' S3 e3 rep3 r3 o3 => by
    cases r2; cases r3
    exact ⟨ρ3, S3, w, rep3, (r.ext e2).ext e3, o3⟩⟩⟩

/-! ### argument lists, displays -/
variable {es : List Expr} {mr : SM (List W)}
def mNil : SM (List W) := fun _ S => .ok [] S
def mCons (m : SM W) (mr : SM (List W)) : SM (List W) := fun s S => (m s S).bind fun w S1 => (mr s S1).bind fun ws S2 => .ok (w :: ws) S2
theorem pam_nil : PAM X E [] mNil := pa_imp pa_nil fun σ H Q ⟨ρ, s, S, rep, env, o⟩ => Out.here o rep .nil
theorem pam_cons (ha : PM X E a ma) (hr : PAM X E es mr) (hs : starEach (a :: es) X.env = (false, eval a X.env) :: starEach es X.env := by rfl) : PAM X E (a :: es) (mCons ma mr) :=
  pa_imp (pa_cons ha hr hs) fun σ H Q h => tX.bind h fun ρ1 H1 w x s S1 rep env r o => ⟨ρ1, s, S1, rep, env, Out.bind o fun ρ2 H2 ws xs S2 e2 rep2 r2 o2 => Out.here o2 rep2 (.cons (r.ext e2) r2)⟩
def gTup (ws : List W) (S : Store) : Res W := if ws.length ≤ lim then .ok (.tup ws) S else .bad
def gLst (ws : List W) (S : Store) : Res W := if ws.length ≤ lim then .ok (.lst ws) S else .bad
/-- a list that will be changed: an object of the store -/
def gLstR (ws : List W) (S : Store) : Res W := if ws.length ≤ lim then .ok (.ref S.length) (S ++ [.lst ws]) else .bad
def mAp (g : List W → Store → Res W) (mr : SM (List W)) : SM W := fun s S => (mr s S).bind g
theorem pm_tup {k : Nat} (h : PAM X E es mr) : PM X E (.Tuple es k pos) (mAp gTup mr) := pe_imp (pe_tup h) fun σ H Q q => tX.bind q fun ρ1 H1 ws xs s S1 rep env r o => by
  unfold gTup at o
  split at o
  · rename_i hz; exact ⟨by rw [← r.length]; exact lim_line hz, fun p hp => out_tup o rep hp r⟩
  · exact o.elim
theorem pm_lst (h : PAM X E es mr) : PM X E (.List es pos) (mAp gLst mr) := pe_imp (pe_lst h) fun σ H Q q => tX.bind q fun ρ1 H1 ws xs s S1 rep env r o => by
  unfold gLst at o
  split at o
  · rename_i hz; exact ⟨by rw [← r.length]; exact lim_line hz, fun p hp => out_lst o rep hp r⟩
  · exact o.elim
theorem out_new {K : PySem.W.Frag} {mg : Str → Option Value} {ρ : RT} {H : Hp} {S : Store} {E : XK} {Q : VK} {u : Ob} {p : Addr} {o' : HO} (o : Out K mg (RW K mg) E ρ H (.ok (.ref S.length) (S ++ [u])) Q) (rep : RepS K mg ρ H S) (hp : H p = none)
    (mk : Ext ρ H (ρ.snoc p) (upd H p o') → RO K mg (ρ.snoc p) (upd H p o') p u) : Q (.ref p) (upd H p o') := by
  have e := ext_push rep hp o'
  obtain ⟨e', rep'⟩ := rep.push hp (mk e)
  refine o _ _ _ e' rep' (.ref ?_)
  show (ρ.r ++ [p])[S.length]? = some p
  rw [← rep.len, List.getElem?_append_right (Nat.le_refl _), Nat.sub_self] <;> rfl
theorem pm_lstR (h : PAM X E es mr) : PM X E (.List es pos) (mAp gLstR mr) := pe_imp (pe_lst h) fun σ H Q q => tX.bind q fun ρ1 H1 ws xs s S1 rep env r o => by
  unfold gLstR at o
  split at o
  · rename_i hz; exact ⟨by rw [← r.length]; exact lim_line hz, fun p hp => out_new o rep hp fun e => .lst upd_same (r.ext e)⟩
  · exact o.elim

/-! ### calls of built-ins -/
def CallM (X : Cx) (E : XK) (f : Value) (g : List W → Store → Res W) : Prop := CallR X f (fun vs H Q => ∃ ρ S ws, RepS X.K X.mg ρ H S ∧ RWs X.K X.mg ρ H ws vs ∧ Out X.K X.mg (RW X.K X.mg) E ρ H (g ws S) Q)
theorem call_of {g : List W → Store → Res W} {σ : L2.St} {H : Hp} {Q : VK} (h : tE X E (mAp g mr) σ H Q) : tCB (fun vs H Q => ∃ ρ S ws, RepS X.K X.mg ρ H S ∧ RWs X.K X.mg ρ H ws vs ∧ Out X.K X.mg (RW X.K X.mg) E ρ H (g ws S) Q) (tA X E mr) σ H Q :=
  tX.bind h fun ρ1 H1 ws xs s S1 rep env r o => ⟨ρ1, S1, ws, rep, r, o⟩
theorem pm_callB {x : Str} {id : String} {p : Pos} {g : List W → Store → Res W} (hc : CallM X E (.builtin id) g) (hm : X.mg x = none) (ha : PAM X E (a :: es) mr) (hv : bootBuiltins x = some (.builtin id) := by decide +kernel) (hg : Gl X x := by rfl) (hn : x ≠ "__name__" := by decide +kernel) (hdb : (x == ("__debug__" : Str)) = false := by decide +kernel)
    (he : starEach (a :: es) X.env = (false, eval a X.env) :: starEach es X.env := by rfl) (hpl : (backTo pos (starEach es X.env)).any (·.1) = false := by rfl) : PM X E (.Call (.Name x p) (a :: es) [] pos) (mAp g mr) := pe_imp (pe_callB hc hg hm hv ha hn hdb he hpl) fun _ _ _ h => call_of h
theorem pm_callTy {x : Str} {T : String} {p : Pos} {g : List W → Store → Res W} (hc : CallM X E (.type T) g) (hm : X.mg x = none) (ha : PAM X E (a :: es) mr) (hv : bootBuiltins x = some (.type T) := by decide +kernel) (hg : Gl X x := by rfl) (hn : x ≠ "__name__" := by decide +kernel) (hdb : (x == ("__debug__" : Str)) = false := by decide +kernel)
    (he : starEach (a :: es) X.env = (false, eval a X.env) :: starEach es X.env := by rfl) (hpl : (backTo pos (starEach es X.env)).any (·.1) = false := by rfl) : PM X E (.Call (.Name x p) (a :: es) [] pos) (mAp g mr) := pe_imp (pe_callTy hc hg hm hv ha hn hdb he hpl) fun _ _ _ h => call_of h
def g1 (g : W → Store → Res W) (ws : List W) (S : Store) : Res W := match ws with
  | [w] => g w S
  | _ => .bad
theorem cm1 {f : Value} {g : W → Store → Res W} (h : ∀ (pins : List (Addr × Obj)) (s : Shared) (σ : L2.St) (H : Hp) (x : V) (us : List Value) (Q : VK) (ρ : RT) (S : Store) (w : W), Inv X pins σ H s → Vals [x] us → RepS X.K X.mg ρ H S → RW X.K X.mg ρ H w x → Out X.K X.mg (RW X.K X.mg) E ρ H (g w S) Q →
    wpAny (model X.prog X.w) X.A (call f us) (EP X pins σ Q) X.xe s) : CallM X E f (g1 g) := by
  intro pins s σ H xs us Q I r ⟨ρ, S, ws, rep, rs, o⟩
  match ws, rs, o with
  | [], _, o => exact o.elim
  | _ :: _ :: _, _, o => exact o.elim
  | [w], rs, o =>
    obtain ⟨x, rfl, rw⟩ := rs.one
    exact h pins s σ H x us Q ρ S w I r rep rw o
/-- len -/
def gLen (w : W) (S : Store) : Res W := match w with
  | .str x => if x.length ≤ lim then .ok (.int x.length) S else .bad
  | .tup ws => .ok (.int ws.length) S
  | w => match seqL S w with
    | some ws => .ok (.int ws.length) S
    | none => .bad
theorem cm_len : CallM X E (.builtin "len") (g1 gLen) := cm1 fun pins s σ H x us Q ρ S w I r rep rw o => by
  have lists : (∀ ws, seqL S w = some ws → gLen w S = .ok (.int ws.length) S) → (seqL S w = none → gLen w S = .bad) → wpAny (model X.prog X.w) X.A (call (.builtin "len") us) (EP X pins σ Q) X.xe s := fun h1 h2 => by
    cases e : seqL S w with
    | none => rw [h2 e] at o; exact o.elim
    | some ws =>
      rw [h1 ws e] at o
      obtain ⟨a, vs, rfl, hl, hr⟩ := seqL_of rep rw e
      rw [hr.length] at o
      exact call_len_seq pins s σ H _ us Q I r ⟨a, vs, rfl, .inl hl, Out.here o rep (.int _)⟩
  cases w with
  | str z =>
    have o : Out X.K X.mg (RW X.K X.mg) E ρ H (if z.length ≤ lim then Res.ok (W.int z.length) S else Res.bad) Q := o
    split at o
    · rename_i hz
      cases rw
      exact call_len_str pins s σ H _ us Q I r ⟨z, rfl, lim_line hz, Out.here o rep (.int _)⟩
    · exact o.elim
  | tup ws =>
    cases rw with
    | tup hf hr =>
      have o : Out X.K X.mg (RW X.K X.mg) E ρ H (Res.ok (W.int ws.length) S) Q := o
      rw [hr.length] at o
      exact call_len_seq pins s σ H _ us Q I r ⟨_, _, rfl, .inr (sqT_of hf), Out.here o rep (.int _)⟩
  | lst ws => exact lists (fun ws e => by simp only [gLen, e]) (fun e => by simp only [gLen, e])
  | flst ws => exact lists (fun ws e => by simp only [gLen, e]) (fun e => by simp only [gLen, e])
  | ref l => exact lists (fun ws e => by simp only [gLen, e]) (fun e => by simp only [gLen, e])
  | _ => exact o.elim
/-- int(n), int(flag) -/
def gInt (w : W) (S : Store) : Res W := match w with
  | .int i => .ok (.int i) S
  | .bl b => .ok (.int (if b then 1 else 0)) S
  | _ => .bad
theorem cm_int : CallM X E (.type "int") (g1 gInt) := cm1 fun pins s σ H x us Q ρ S w I r rep rw o => by
  cases w with
  | int i => cases rw; exact call_int1 pins s σ H _ us Q I r (.inl ⟨i, rfl, Out.here (w := W.int _) o rep (.int _)⟩)
  | bl b => cases rw; exact call_int1 pins s σ H _ us Q I r (.inr ⟨b, rfl, Out.here (w := W.int _) o rep (.int _)⟩)
  | _ => exact o.elim
/-- list(x), tuple(x) of a list or tuple -/
def seqA (S : Store) (w : W) : Option (List W) := (tupL w).or (seqL S w)
theorem seqA_of {K : PySem.W.Frag} {mg : Str → Option Value} {ρ : RT} {H : Hp} {S : Store} {w : W} {x : V} {ws : List W} (rep : RepS K mg ρ H S) (r : RW K mg ρ H w x) (h : seqA S w = some ws) : ∃ a vs, x = .ref a ∧ (SqL K H a vs ∨ SqT K H a vs) ∧ RWs K mg ρ H ws vs ∧ (w ≠ .tup ws → SqL K H a vs) ∧ (w = .tup ws → SqT K H a vs) := by
  cases w with
  | tup us =>
    cases (Option.some.inj h : us = ws)
    cases r with | tup hf hr => exact ⟨_, _, rfl, .inr (sqT_of hf), hr, fun n => absurd rfl n, fun _ => sqT_of hf⟩
  | _ => obtain ⟨a, vs, rfl, hs, hr⟩ := seqL_of rep r (by simpa [seqA, tupL] using h); exact ⟨a, vs, rfl, .inl hs, hr, fun _ => hs, fun z => by cases z⟩
def gListOf (w : W) (S : Store) : Res W := match seqA S w with
  | some ws => .ok (.lst ws) S
  | none => .bad
theorem cm_list : CallM X E (.type "list") (g1 gListOf) := cm1 fun pins s σ H x us Q ρ S w I r rep rw o => by
  unfold gListOf at o
  cases e : seqA S w with
  | none => rw [e] at o; exact o.elim
  | some ws =>
    rw [e] at o
    obtain ⟨a, vs, rfl, hl, hr, _⟩ := seqA_of rep rw e
    exact call_list_of pins s σ H _ us Q I r ⟨a, vs, rfl, hl, fun p hp => out_lst o rep hp hr⟩
/-- list(x) that will be changed -/
def gListOfR (w : W) (S : Store) : Res W := match seqA S w with
  | some ws => .ok (.ref S.length) (S ++ [.lst ws])
  | none => .bad
theorem cm_listR : CallM X E (.type "list") (g1 gListOfR) := cm1 fun pins s σ H x us Q ρ S w I r rep rw o => by
  unfold gListOfR at o
  cases e : seqA S w with
  | none => rw [e] at o; exact o.elim
  | some ws =>
    rw [e] at o
    obtain ⟨a, vs, rfl, hl, hr, _⟩ := seqA_of rep rw e
    exact call_list_of pins s σ H _ us Q I r ⟨a, vs, rfl, hl, fun p hp => out_new o rep hp fun e => .lst upd_same (hr.ext e)⟩
def gTupOf (w : W) (S : Store) : Res W := match seqA S w with
  | some ws => .ok (.tup ws) S
  | none => .bad
theorem cm_tuple : CallM X E (.type "tuple") (g1 gTupOf) := cm1 fun pins s σ H x us Q ρ S w I r rep rw o => by
  unfold gTupOf at o
  cases e : seqA S w with
  | none => rw [e] at o; exact o.elim
  | some ws =>
    rw [e] at o
    cases w with
    | tup us' =>
      cases (Option.some.inj e : us' = ws)
      cases rw with | tup hf hr => exact call_tuple_of pins s σ H _ us Q I r ⟨_, _, rfl, .inr ⟨sqT_of hf, Out.here o rep (.tup hf hr)⟩⟩
    | _ =>
      obtain ⟨a, vs, rfl, hs, hr⟩ := seqL_of rep rw (by simpa [seqA, tupL] using e)
      exact call_tuple_of pins s σ H _ us Q I r ⟨a, vs, rfl, .inl ⟨hs, fun p hp => out_tup o rep hp hr⟩⟩
/-- all(xs), any(xs), xs a list of bools -/
def blsW : List W → Option (List Bool)
  | [] => some []
  | .bl b :: r => (blsW r).map (b :: ·)
  | _ => none
theorem blsW_of {K : PySem.W.Frag} {mg : Str → Option Value} {ρ : RT} {H : Hp} : ∀ {ws : List W} {vs : List V} {bs : List Bool}, RWs K mg ρ H ws vs → blsW ws = some bs → vs = bs.map V.bl
  | _, _, _, .nil, h => by cases (Option.some.inj h : [] = _); rfl
  | _, _, _, .cons (w := w) (ws := ws) r t, h => by
    cases w with
    | bl b =>
      cases e : blsW ws with
      | none => simp [blsW, e] at h
      | some bs =>
        simp [blsW, e] at h
        subst h
        cases r
        rw [blsW_of t e]
        rfl
    | _ => cases h
def gAll (w : W) (S : Store) : Res W := match (seqL S w).bind blsW with
  | some bs => .ok (.bl (bs.all id)) S
  | none => .bad
def gAny (w : W) (S : Store) : Res W := match (seqL S w).bind blsW with
  | some bs => .ok (.bl (bs.any id)) S
  | none => .bad
theorem bls_at {K : PySem.W.Frag} {mg : Str → Option Value} {ρ : RT} {H : Hp} {S : Store} {w : W} {x : V} {bs : List Bool} (rep : RepS K mg ρ H S) (r : RW K mg ρ H w x) (h : (seqL S w).bind blsW = some bs) : ∃ a, x = .ref a ∧ SqL K H a (bs.map V.bl) := by
  cases e : seqL S w with
  | none => rw [e] at h; cases h
  | some ws =>
    rw [e] at h
    obtain ⟨a, vs, rfl, hl, hr⟩ := seqL_of rep r e
    rw [blsW_of hr h] at hl
    exact ⟨a, rfl, hl⟩
theorem cm_all (hc : X.calm = true) : CallM X E (.builtin "all") (g1 gAll) := cm1 fun pins s σ H x us Q ρ S w I r rep rw o => by
  unfold gAll at o
  cases e : (seqL S w).bind blsW with
  | none => rw [e] at o; exact o.elim
  | some bs =>
    rw [e] at o
    obtain ⟨a, rfl, hl⟩ := bls_at rep rw e
    exact cr_all hc pins s σ H _ us Q I r ⟨a, bs, rfl, hl, Out.here o rep (.bl _)⟩
theorem cm_any (hc : X.calm = true) : CallM X E (.builtin "any") (g1 gAny) := cm1 fun pins s σ H x us Q ρ S w I r rep rw o => by
  unfold gAny at o
  cases e : (seqL S w).bind blsW with
  | none => rw [e] at o; exact o.elim
  | some bs =>
    rw [e] at o
    obtain ⟨a, rfl, hl⟩ := bls_at rep rw e
    exact cr_any hc pins s σ H _ us Q I r ⟨a, bs, rfl, hl, Out.here o rep (.bl _)⟩
end

/-! ### isinstance -/
/-- the type of a value -/
def tyOf (S : Store) : W → Option W
  | .non => some (.ty "NoneType")
  | .bl _ => some (.ty "bool")
  | .int _ => some (.ty "int")
  | .str _ => some (.ty "str")
  | .tup _ => some (.ty "tuple")
  | .lst _ => some (.ty "list")
  | .flst _ => some (.ty "list")
  | .dic _ _ => some (.ty "dict")
  | .ins c _ _ => some (.gl c)
  | .ref l => match S[l]? with
    | some (.lst _) => some (.ty "list")
    | some (.dic _ _) => some (.ty "dict")
    | some (.ins c _ _) => some (.gl c)
    | none => none
  | _ => none
inductive TyVal (mg : Str → Option Value) : W → Value → Prop where
  | ty (n : String) : TyVal mg (.ty n) (.type n)
  | gl {x : Str} {a : Addr} (h : mg x = some (.ref a)) : TyVal mg (.gl x) (.ref a)
/-- whether a value of the type t is one of c; the answers that are known -/
abbrev KT := W → W → Option Bool
structure KtOk (K : PySem.W.Frag) (mg : Str → Option Value) (kt : KT) : Prop where
  one : ∀ t c b tv cv, kt t c = some b → TyVal mg t tv → TyVal mg c cv → PySem.W.kitOne K tv cv = some b
  ins : ∀ c C, mg c = some (.ref C) → (∃ d b, kt (.gl c) d = some b) → Cls K C ∧ PySem.W.findIn K (.ref C) "__class__" = some (some (.builtin "object.__class__")) ∧
    PySem.W.specialIn K (.builtin "object.__class__") "__get__" = some (some (.builtin "getset_descriptor.__get__")) ∧ PySem.W.takesIn K (.builtin "object.__class__") = some true ∧ PySem.W.mroIn K C (.type "object") = some true
def ktAny (kt : KT) (t : W) : List W → Option Bool
  | [] => some false
  | c :: cs => match kt t c with
    | some true => some true
    | some false => ktAny kt t cs
    | none => none
/-- the built-in types among one another -/
def ktB : KT
  | .ty a, .ty b => if a ∈ ["NoneType", "bool", "int", "str", "tuple", "list", "dict"] ∧ b ∈ ["bool", "int", "str", "tuple", "list", "dict"] then some (a == b || (a == "bool" && b == "int")) else none
  | _, _ => none
theorem kitB_all : ∀ a ∈ ["NoneType", "bool", "int", "str", "tuple", "list", "dict"], ∀ b ∈ ["bool", "int", "str", "tuple", "list", "dict"], kitB a b = some (a == b || (a == "bool" && b == "int")) := by decide +kernel
theorem ktB_ok {K : PySem.W.Frag} {mg : Str → Option Value} : KtOk K mg ktB where
  one := fun t c b tv cv h ht hc => by
    cases ht with
    | ty n =>
      cases hc with
      | ty m =>
        unfold ktB at h
        dsimp only at h
        split at h
        · rename_i hz
          cases (Option.some.inj h)
          exact kit_ty (kitB_all n hz.1 m hz.2)
        · cases h
      | gl _ => cases h
    | gl _ => cases h
  ins := fun c C _ ⟨d, b, h⟩ => by cases h
def isCls : W → Bool
  | .ty _ | .gl _ => true
  | _ => false
def gIsi1 (kt : KT) (w c : W) (S : Store) : Res W := match tyOf S w with
  | none => .bad
  | some t => if isCls c = true then (match kt t c with
      | some b => .ok (.bl b) S
      | none => .bad) else match tupL c with
    | some (d :: ds) => if (d :: ds).all isCls = true then (match kt t d, ktAny kt t (d :: ds) with
      | some _, some b => .ok (.bl b) S
      | _, _ => .bad) else .bad
    | _ => .bad
def gIsi (kt : KT) (ws : List W) (S : Store) : Res W := match ws with
  | [w, c] => gIsi1 kt w c S
  | _ => .bad
section
variable {K : PySem.W.Frag} {mg : Str → Option Value} {ρ : RT} {H : Hp} {S : Store}
theorem tyOf_of {kt : KT} (T : KtOk K mg kt) {w : W} {x : V} {t d : W} {b : Bool} (rep : RepS K mg ρ H S) (r : RW K mg ρ H w x) (h : tyOf S w = some t) (hk : kt t d = some b) : ∃ tv, TyVal mg t tv ∧ TyX K H x tv := by
  cases w with
  | non => cases r; cases h; exact ⟨_, .ty _, .base .non⟩
  | bl b => cases r; cases h; exact ⟨_, .ty _, .base (.bl _)⟩
  | int b => cases r; cases h; exact ⟨_, .ty _, .base (.int _)⟩
  | str b => cases r; cases h; exact ⟨_, .ty _, .base (.str _)⟩
  | tup ws =>
    cases h
    cases r with
    | tup hf hr =>
      rcases hf with hf | ⟨o, its, n, h1, h2, _⟩
      · exact ⟨_, .ty _, .base (.tup hf.1)⟩
      · exact ⟨_, .ty _, .kTuple h1 h2⟩
  | lst ws => cases h; cases r with | lst hf hr => exact ⟨_, .ty _, .base (.lst hf.1)⟩
  | flst ws =>
    cases h
    cases r with
    | flst hf hr =>
      rcases hf with ⟨o, hf⟩ | ⟨o, its, n, h1, h2, _⟩
      · exact ⟨_, .ty _, .base (.frz hf.1)⟩
      · exact ⟨_, .ty _, .kList h1 h2⟩
  | dic ks ws => cases h; cases r with | dic hf hl hr => exact ⟨_, .ty _, .base (.dK hf.1)⟩
  | ins c ns ws =>
    cases h
    cases r with
    | ins hc hf hl hr =>
      obtain ⟨h1, h2, h3, h4, h5⟩ := T.ins _ _ hc ⟨_, _, hk⟩
      exact ⟨_, .gl hc, .base (.ins hf.1 h1 h2 h3 h4 h5)⟩
  | ref l =>
    cases r with
    | ref hl =>
      cases e : S[l]? with
      | none => simp [tyOf, e] at h
      | some ob =>
        obtain ⟨a, h1, h2⟩ := rep.ob l _ e
        rw [hl] at h1; cases h1
        cases h2 with
        | lst h3 h4 => simp [tyOf, e] at h; subst h; exact ⟨_, .ty _, .base (.lst h3)⟩
        | dic h3 h4 h5 => simp [tyOf, e] at h; subst h; exact ⟨_, .ty _, .base (.dK h3)⟩
        | ins hc h3 h4 h5 =>
          simp [tyOf, e] at h; subst h
          obtain ⟨g1, g2, g3, g4, g5⟩ := T.ins _ _ hc ⟨_, _, hk⟩
          exact ⟨_, .gl hc, .base (.ins h3 g1 g2 g3 g4 g5)⟩
  | _ => cases h
theorem clsV_of {c : W} {x : V} (r : RW K mg ρ H c x) {kt : KT} {t : W} {b : Bool} (T : KtOk K mg kt) (hc : (∃ n, c = .ty n) ∨ ∃ n, c = .gl n) : ∃ cv, TyVal mg c cv ∧ ClsV x cv := by
  rcases hc with ⟨n, rfl⟩ | ⟨n, rfl⟩
  · cases r; exact ⟨_, .ty n, .ty n⟩
  · cases r with | gl h => exact ⟨_, .gl h, .own _⟩
theorem ktAny_of {kt : KT} (T : KtOk K mg kt) {t : W} {tv : Value} (ht : TyVal mg t tv) : ∀ {cs : List W} {xs : List V} {b : Bool}, RWs K mg ρ H cs xs → (∀ c ∈ cs, (∃ n, c = .ty n) ∨ ∃ n, c = .gl n) → ktAny kt t cs = some b → ∃ cvs, Paired ClsV xs cvs ∧ PySem.W.kitAny K tv cvs = some b
  | _, _, b, .nil, _, h => by cases (Option.some.inj h : false = b); exact ⟨[], .nil, kitAny_nil⟩
  | _, _, b, .cons (w := c) (ws := cs) (vs := vs') r rs, hk, h => by
    obtain ⟨cv, h1, h2⟩ := clsV_of (kt := kt) (t := t) (b := b) r T (hk c List.mem_cons_self)
    unfold ktAny at h
    cases e : kt t c with
    | none => rw [e] at h; cases h
    | some k =>
      have hone := T.one t c k tv cv e ht h1
      have rest : ∃ cvs, Paired ClsV vs' cvs ∧ (k = false → PySem.W.kitAny K tv cvs = some b) := by
        cases k with
        | false =>
          rw [e] at h
          obtain ⟨cvs, p1, p2⟩ := ktAny_of T ht rs (fun c hc => hk c (List.mem_cons_of_mem _ hc)) h
          exact ⟨cvs, p1, fun _ => p2⟩
        | true =>
          have : ∀ {cs : List W} {xs : List V}, RWs K mg ρ H cs xs → (∀ c ∈ cs, (∃ n, c = .ty n) ∨ ∃ n, c = .gl n) → ∃ cvs, Paired ClsV xs cvs := by
            intro cs xs r hk
            induction cs generalizing xs with
            | nil => cases r; exact ⟨[], .nil⟩
            | cons c cs ih =>
              cases r with
              | cons r1 r2 =>
                obtain ⟨cv, _, z⟩ := clsV_of (kt := kt) (t := t) (b := b) r1 T (hk c List.mem_cons_self)
                obtain ⟨cvs, zs⟩ := ih r2 fun c hc => hk c (List.mem_cons_of_mem _ hc)
                exact ⟨cv :: cvs, .cons z zs⟩
          obtain ⟨cvs, p1⟩ := this rs fun c hc => hk c (List.mem_cons_of_mem _ hc)
          exact ⟨cvs, p1, fun z => by cases z⟩
      obtain ⟨cvs, p1, p2⟩ := rest
      refine ⟨cv :: cvs, .cons h2 p1, kitAny_cons hone p2 fun z => ?_⟩
      subst z
      rw [e] at h
      exact (Option.some.inj h).symm
end
theorem isCls_of {c : W} (h : isCls c = true) : (∃ n, c = .ty n) ∨ ∃ n, c = .gl n := by
  cases c with
  | ty n => exact .inl ⟨n, rfl⟩
  | gl n => exact .inr ⟨n, rfl⟩
  | _ => cases h
section
variable {X : Cx} {E : XK}
/-- the classes are built-in types or classes of the module -/
theorem cm_isi {kt : KT} (T : KtOk X.K X.mg kt) : CallM X E (.builtin "isinstance") (gIsi kt) := by
  intro pins s σ H xs us Q I r ⟨ρ, S, ws, rep, rs, o⟩
  match ws, rs, o with
  | [], _, o => exact o.elim
  | [_], _, o => exact o.elim
  | _ :: _ :: _ :: _, _, o => exact o.elim
  | [w, c], rs, o =>
    obtain ⟨x, y, rfl, r1, r2⟩ := rs.two
    have o : Out X.K X.mg (RW X.K X.mg) E ρ H (gIsi1 kt w c S) Q := o
    unfold gIsi1 at o
    cases e1 : tyOf S w with
    | none => rw [e1] at o; exact o.elim
    | some t =>
      rw [e1] at o
      dsimp only at o
      split at o
      · rename_i hc
        cases e3 : kt t c with
        | none => rw [e3] at o; exact o.elim
        | some b =>
          rw [e3] at o
          obtain ⟨tv, h1, h2⟩ := tyOf_of T rep r1 e1 e3
          obtain ⟨cv, h3, h4⟩ := clsV_of (kt := kt) (t := t) (b := b) r2 T (isCls_of hc)
          exact call_isi pins s σ H _ us Q I r ⟨x, y, tv, cv, b, rfl, h4, h2, T.one t c b tv cv e3 h1 h3, Out.here o rep (.bl _)⟩
      · cases c with
        | tup cs =>
          cases cs with
          | nil => exact o.elim
          | cons d ds =>
            have o : Out X.K X.mg (RW X.K X.mg) E ρ H (if (d :: ds).all isCls = true then (match kt t d, ktAny kt t (d :: ds) with
              | some _, some b => .ok (.bl b) S
              | _, _ => .bad) else .bad) Q := o
            split at o
            · rename_i hall
              cases e2 : kt t d with
              | none => rw [e2] at o; exact o.elim
              | some k =>
                cases e3 : ktAny kt t (d :: ds) with
                | none => rw [e2, e3] at o; exact o.elim
                | some b =>
                  rw [e2, e3] at o
                  obtain ⟨tv, h1, h2⟩ := tyOf_of T rep r1 e1 e2
                  cases r2 with
                  | tup hf hr =>
                    obtain ⟨cvs, h3, h4⟩ := ktAny_of T h1 hr (fun c hc => isCls_of (List.all_eq_true.mp hall c hc)) e3
                    rcases hf with hf | ⟨ob, its, n, g1, g2, g3, g4, g5⟩
                    · exact call_isiT pins s σ H _ us Q I r ⟨x, _, _, tv, cvs, b, rfl, hf.1, h3, h2, h4, Out.here o rep (.bl _)⟩
                    · have ee : its.toList = cvs := ClsV.all h3 g5
                      subst ee
                      obtain ⟨oc, od, dt, sl⟩ := ob
                      simp only at g2 g3
                      subst g2 g3
                      exact call_isiK pins s σ H _ us Q I r ⟨x, _, od, its.toList, n, sl, tv, b, rfl, by simpa using g1, h2, h4, Out.here o rep (.bl _)⟩
            · exact o.elim
        | _ => exact o.elim
end
end RL
end

section
set_option maxRecDepth 100000
set_option maxHeartbeats 2000000
namespace RL
open PySem PySem.Spec L2
open PyProof.Rows hiding St

/-! ### statements -/
inductive Fl where
  | nx | rt (w : W) | bk | ct
abbrev SS := SM (Fl × Env')
section
variable (K : PySem.W.Frag) (mg : Str → Option Value)
def OutS (E : XK) (ρ : RT) (H : Hp) (r : Res (Fl × Env')) (D : Ends) : Prop := match r with
  | .ok (f, s') S' => match f with
    | .nx => ∀ ρ' H' σ', Ext ρ H ρ' H' → RepS K mg ρ' H' S' → REnv K mg ρ' H' s' σ' → D.nx σ' H'
    | .rt w => ∀ ρ' H' v, Ext ρ H ρ' H' → RepS K mg ρ' H' S' → RW K mg ρ' H' w v → D.rt v H'
    | .bk => ∀ ρ' H' σ', Ext ρ H ρ' H' → RepS K mg ρ' H' S' → REnv K mg ρ' H' s' σ' → D.bk σ' H'
    | .ct => ∀ ρ' H' σ', Ext ρ H ρ' H' → RepS K mg ρ' H' S' → REnv K mg ρ' H' s' σ' → D.ct σ' H'
  | .exc c ns ws S => ExcOut K mg E ρ H c ns ws S
  | .bad => False
end
def tS (X : Cx) (E : XK) (m : SS) : TS := fun D σ H => ∃ ρ s S, RepS X.K X.mg ρ H S ∧ REnv X.K X.mg ρ H s σ ∧ OutS X.K X.mg E ρ H (m s S) D
def PSM (X : Cx) (E : XK) (st : Stmt) (m : SS) : Prop := PS X st (tS X E m)
def PSsM (X : Cx) (E : XK) (st : List Stmt) (m : SS) : Prop := PSs X st (tS X E m)
theorem ps_imp {X : Cx} {st : Stmt} {t t' : TS} (h : PS X st t) (f : ∀ D σ H, t' D σ H → t D σ H) : PS X st t' := ⟨fun pins s σ H D I q => h.run pins s σ H D I (f D σ H q)⟩
theorem pss_imp {X : Cx} {st : List Stmt} {t t' : TS} (h : PSs X st t) (f : ∀ D σ H, t' D σ H → t D σ H) : PSs X st t' := ⟨fun pins s σ H D I q => h.run pins s σ H D I (f D σ H q)⟩
section
variable {K : PySem.W.Frag} {mg : Str → Option Value} {ρ ρ' : RT} {H H' : Hp} {E : XK} {α β : Type}
theorem OutS.ext {r : Res (Fl × Env')} {D : Ends} (e : Ext ρ H ρ' H') (h : OutS K mg E ρ H r D) : OutS K mg E ρ' H' r D := by
  cases r with
  | ok p S =>
    obtain ⟨f, s'⟩ := p
    cases f with
    | nx => exact fun ρ2 H2 σ2 x => h ρ2 H2 σ2 (e.trans x)
    | rt w => exact fun ρ2 H2 σ2 x => h ρ2 H2 σ2 (e.trans x)
    | bk => exact fun ρ2 H2 σ2 x => h ρ2 H2 σ2 (e.trans x)
    | ct => exact fun ρ2 H2 σ2 x => h ρ2 H2 σ2 (e.trans x)
  | exc c ns ws S => exact ExcOut.ext e h
  | bad => exact h
/-- an expression's (target's) part ahead of the rest of a statement -/
theorem OutS.bind {R : Rl β α} {r : Res α} {k : α → Store → Res (Fl × Env')} {D : Ends} {Z : β → Hp → Prop} (h : OutS K mg E ρ H (r.bind k) D)
    (f : ∀ ρ1 H1 a b S1, Ext ρ H ρ1 H1 → RepS K mg ρ1 H1 S1 → R ρ1 H1 a b → OutS K mg E ρ1 H1 (k a S1) D → Z b H1) : Out K mg R E ρ H r Z := by
  cases r with
  | ok w S => exact fun ρ1 H1 v e rep rw => f ρ1 H1 w v S e rep rw (OutS.ext e h)
  | exc c ns ws S => exact h
  | bad => exact h
end
theorem tS.bind {X : Cx} {E : XK} {α β : Type} {R : Rl β α} {m : SM α} {k : α → SS} {D : Ends} {σ : L2.St} {H : Hp} {Z : β → Hp → Prop} (h : tS X E (fun s S => (m s S).bind fun a => k a s) D σ H)
    (f : ∀ ρ1 H1 a b s S1, RepS X.K X.mg ρ1 H1 S1 → REnv X.K X.mg ρ1 H1 s σ → R ρ1 H1 a b → OutS X.K X.mg E ρ1 H1 (k a s S1) D → Z b H1) : tX X.K X.mg R E m σ H Z := by
  obtain ⟨ρ, s, S, rep, env, o⟩ := h
  exact ⟨ρ, s, S, rep, env, OutS.bind o fun ρ1 H1 a b S1 e rep1 r o1 => f ρ1 H1 a b s S1 rep1 (env.ext e) r o1⟩
theorem OutS.nx {X : Cx} {E : XK} {ρ : RT} {H : Hp} {s : Env'} {S : Store} {D : Ends} {σ : L2.St} (o : OutS X.K X.mg E ρ H (.ok (.nx, s) S) D) (rep : RepS X.K X.mg ρ H S) (env : REnv X.K X.mg ρ H s σ) : D.nx σ H := o ρ H σ (Ext.refl _ _) rep env

def mSkip : SS := fun s S => .ok (.nx, s) S
def mSeq (m ms : SS) : SS := fun s S => (m s S).bind fun p S1 => match p with
  | (.nx, s1) => ms s1 S1
  | p => .ok p S1
section
variable {X : Cx} {E : XK} {pos : Pos} {st : Stmt} {sts : List Stmt} {m ms : SS} {a : Expr} {ma : SM W}
theorem psm_nil : PSsM X E [] mSkip := pss_imp pss_nil fun D σ H ⟨ρ, s, S, rep, env, o⟩ => OutS.nx o rep env
theorem psm_cons (h : PSM X E st m) (hs : PSsM X E sts ms) : PSsM X E (st :: sts) (mSeq m ms) := pss_imp (pss_cons h hs) fun D σ H ⟨ρ, s, S, rep, env, o⟩ => by
  refine ⟨ρ, s, S, rep, env, ?_⟩
  unfold mSeq at o
  cases e : m s S with
  | ok p S1 =>
    obtain ⟨f, s1⟩ := p
    rw [e] at o
    cases f with
    | nx => exact fun ρ1 H1 σ1 x rep1 env1 => ⟨ρ1, s1, S1, rep1, env1, OutS.ext x o⟩
    | rt w => exact o
    | bk => exact o
    | ct => exact o
  | exc c ns ws S1 => rw [e] at o; exact o
  | bad => rw [e] at o; exact o
theorem psm_one (h : PSM X E st m) : PSsM X E [st] m := pss_imp (pss_one h) fun D σ H q => q
theorem psm_pass : PSM X E (.Pass pos) mSkip := ps_imp ps_pass fun D σ H ⟨ρ, s, S, rep, env, o⟩ => OutS.nx o rep env
theorem psm_doc {x j p} : PSM X E (.Expr (.Constant (.str x) j p) pos) mSkip := ps_imp ps_doc fun D σ H ⟨ρ, s, S, rep, env, o⟩ => OutS.nx o rep env
theorem psm_break : PSM X E (.Break pos) (fun s S => .ok (.bk, s) S) := ps_imp ps_break fun D σ H ⟨ρ, s, S, rep, env, o⟩ => o ρ H σ (Ext.refl _ _) rep env
theorem psm_continue : PSM X E (.Continue pos) (fun s S => .ok (.ct, s) S) := ps_imp ps_continue fun D σ H ⟨ρ, s, S, rep, env, o⟩ => o ρ H σ (Ext.refl _ _) rep env
def mExpr (ma : SM W) : SS := fun s S => (ma s S).bind fun _ S1 => .ok (.nx, s) S1
theorem psm_expr (ha : PM X E a ma) (hs : swapsWith a none pos.line X.env = pure false := by rfl) : PSM X E (.Expr a pos) (mExpr ma) :=
  ps_imp (ps_expr ha hs) fun D σ H h => tS.bind h fun ρ1 H1 w x s S1 rep env r o => OutS.nx o rep env
def mRet (ma : SM W) : SS := fun s S => (ma s S).bind fun w S1 => .ok (.rt w, s) S1
theorem psm_ret (ha : PM X E a ma) : PSM X E (.Return (some a) pos) (mRet ma) := ps_imp (ps_ret ha) fun D σ H h => tS.bind h fun ρ1 H1 w x s S1 rep env r o => o ρ1 H1 x (Ext.refl _ _) rep r
theorem psm_retN : PSM X E (.Return none pos) (fun s S => .ok (.rt .non, s) S) := ps_imp ps_retN fun D σ H ⟨ρ, s, S, rep, env, o⟩ => o ρ H .non (Ext.refl _ _) rep .non
def mIf (nc : SM Bool) (m ms : SS) : SS := fun s S => (nc s S).bind fun b S1 => if b = true then m s S1 else ms s S1
theorem psm_if {c : Expr} {nc : SM Bool} {A B : List Stmt} (hc : PTM X E c nc) (ha : PSsM X E A m) (hb : PSsM X E B ms) : PSM X E (.If c A B pos) (mIf nc m ms) :=
  ps_imp (ps_if hc ha hb) fun D σ H h => tS.bind h fun ρ1 H1 k k' s S1 rep env r o => by
    cases r
    cases k with
    | true => rw [if_pos rfl] at o; rw [if_pos rfl]; exact ⟨ρ1, s, S1, rep, env, o⟩
    | false => rw [if_neg Bool.false_ne_true] at o; rw [if_neg Bool.false_ne_true]; exact ⟨ρ1, s, S1, rep, env, o⟩
end

theorem Out.conv {K : PySem.W.Frag} {mg : Str → Option Value} {α β : Type} {R R' : Rl β α} {E : XK} {ρ : RT} {H : Hp} {r : Res α} {Q : β → Hp → Prop} (h : Out K mg R E ρ H r Q) (f : ∀ ρ1 H1 a b, R' ρ1 H1 a b → R ρ1 H1 a b) : Out K mg R' E ρ H r Q := by
  cases r with
  | ok w S => exact fun ρ1 H1 v e rep rr => h ρ1 H1 v e rep (f _ _ _ _ rr)
  | exc c ns ws S => exact h
  | bad => exact h
/-! ### targets; vs: the slots that a target may change -/
abbrev GM := W → Env' → Store → Res Env'
def tG (X : Cx) (E : XK) (vs : List Nat) (g : GM) : TG := fun v σ H Q => ∃ ρ s S w, RepS X.K X.mg ρ H S ∧ REnv X.K X.mg ρ H s σ ∧ RW X.K X.mg ρ H w v ∧ Out X.K X.mg (fun ρ H s' σ' => REnv X.K X.mg ρ H s' σ' ∧ wipe σ' vs = wipe σ vs) E ρ H (g w s S) Q
def PGM (X : Cx) (E : XK) (tg : Expr) (vs : List Nat) (g : GM) : Prop := PG X tg (tG X E vs g)
abbrev GMs := List W → Env' → Store → Res Env'
def tGs (X : Cx) (E : XK) (vs : List Nat) (g : GMs) : TGs := fun v σ H Q => ∃ ρ s S w, RepS X.K X.mg ρ H S ∧ REnv X.K X.mg ρ H s σ ∧ RWs X.K X.mg ρ H w v ∧ Out X.K X.mg (fun ρ H s' σ' => REnv X.K X.mg ρ H s' σ' ∧ wipe σ' vs = wipe σ vs) E ρ H (g w s S) Q
def PGsM (X : Cx) (E : XK) (tg : List Expr) (vs : List Nat) (g : GMs) : Prop := PGs X tg (tGs X E vs g)
theorem pg_imp {X : Cx} {e : Expr} {t t' : TG} (h : PG X e t) (f : ∀ v σ H Q, t' v σ H Q → t v σ H Q) : PG X e t' := ⟨fun pins s σ H v u Q I r q => h.run pins s σ H v u Q I r (f v σ H Q q)⟩
theorem pgs_imp {X : Cx} {e : List Expr} {t t' : TGs} (h : PGs X e t) (f : ∀ v σ H Q, t' v σ H Q → t v σ H Q) : PGs X e t' := ⟨fun pins s σ H v u Q I r q => h.run pins s σ H v u Q I r (f v σ H Q q)⟩
theorem wipe_set {σ : L2.St} {i : Nat} {o : Option V} : ∀ {vs : List Nat}, i ∈ vs → wipe (σ.set i o) vs = wipe σ vs
  | v :: vs, h => by
    unfold wipe
    by_cases e : i = v
    · subst e
      by_cases hm : i ∈ vs
      · rw [wipe_set hm]
      · have : ∀ {vs : List Nat}, i ∉ vs → wipe (σ.set i o) vs = (wipe σ vs).set i o := by
          intro vs hn
          induction vs with
          | nil => rfl
          | cons k r ih =>
            unfold wipe
            rw [ih fun z => hn (List.mem_cons_of_mem _ z), List.set_comm _ _ (fun z => hn (by first | (rw [z]; exact List.mem_cons_self) | (rw [← z]; exact List.mem_cons_self)))]
        rw [this hm, List.set_set]
    · rw [wipe_set ((List.mem_cons.mp h).resolve_left e)]
def gNm (i : Nat) : GM := fun w s S => .ok (s.set i (some w)) S
section
variable {X : Cx} {E : XK} {pos : Pos} {a b o i : Expr} {ma mo mi : SM W} {vs : List Nat}
theorem pgm_name (i : Nat) {x : Str} (hN : X.N.Nodup) (hm : i ∈ vs := by simp) (hi : X.N[i]? = some x := by rfl) (hx : Loc X.env.scope x := by first | exact Or.inl rfl | exact Or.inr rfl) (hf : X.fn x = true ∨ X.env.scope.names.lookup x = some .local := by first | exact .inl rfl | exact .inr rfl) : PGM X E (.Name x pos) vs (gNm i) :=
  pg_imp (pg_name hN hi hx hf) fun v σ H Q ⟨ρ, s, S, w, rep, env, r, o⟩ => Out.here o rep ⟨env.set i r, wipe_set hm⟩
def gNil : GMs := fun ws s S => match ws with
  | [] => .ok s S
  | _ => .bad
def gCons (g : GM) (gs : GMs) : GMs := fun ws s S => match ws with
  | w :: r => (g w s S).bind fun s1 S1 => gs r s1 S1
  | [] => .bad
theorem pgm_nil : PGsM X E [] vs gNil := pgs_imp pgs_nil fun v σ H Q ⟨ρ, s, S, w, rep, env, r, o⟩ => by
  cases r with
  | nil => exact ⟨rfl, Out.here o rep ⟨env, rfl⟩⟩
  | cons _ _ => exact o.elim
theorem pgm_cons {e : Expr} {es : List Expr} {g : GM} {gs : GMs} (h1 : PGM X E e vs g) (h2 : PGsM X E es vs gs) (hs : (assignEach (e :: es) X.env).map (·.2) = assign e X.env :: (assignEach es X.env).map (·.2) := by rfl) : PGsM X E (e :: es) vs (gCons g gs) :=
  pgs_imp (pgs_cons h1 h2 hs) fun v σ H Q ⟨ρ, s, S, w, rep, env, r, o⟩ => by
    cases r with
    | nil => exact o.elim
    | cons r rs =>
      refine ⟨_, _, rfl, ρ, s, S, _, rep, env, r, Out.bind o fun ρ1 H1 s1 σ1 S1 e rep1 hh o1 => ⟨ρ1, s1, S1, _, rep1, hh.1, rs.ext e, ?_⟩⟩
      exact o1.conv fun ρ2 H2 s2 σ2 h2 => ⟨h2.1, h2.2.trans hh.2⟩
/-- a, b, .. = a tuple of that length -/
def gTp (n : Nat) (gs : GMs) : GM := fun w s S => match w with
  | .tup ws => if ws.length = n then gs ws s S else .bad
  | _ => .bad
theorem pgm_tup {es : List Expr} {k n : Nat} {gs : GMs} (hc : X.calm = true) (h : PGsM X E es vs gs) (hn : (assignEach es X.env).length = n := by rfl) (hst : (assignEach es X.env).findIdx? (·.1) = none := by rfl) : PGM X E (.Tuple es k pos) vs (gTp n gs) :=
  pg_imp (pg_tup hc h hn hst) fun v σ H Q ⟨ρ, s, S, w, rep, env, r, o⟩ => by
    cases w with
    | tup ws =>
      cases r with
      | tup hf hr =>
        have o : Out X.K X.mg (fun ρ H s' σ' => REnv X.K X.mg ρ H s' σ' ∧ wipe σ' vs = wipe σ vs) E ρ H (if ws.length = n then gs ws s S else .bad) Q := o
        split at o
        · rename_i hz; exact ⟨_, _, rfl, sqT_of hf, by rw [← hr.length]; exact hz, ρ, s, S, ws, rep, env, hr, o⟩
        · exact o.elim
    | _ => exact o.elim
/-- a, b, .. = a list of that length -/
def gLs (n : Nat) (gs : GMs) : GM := fun w s S => match seqL S w with
  | some ws => if ws.length = n then gs ws s S else .bad
  | _ => .bad
theorem pgm_lst {es : List Expr} {k n : Nat} {gs : GMs} (hc : X.calm = true) (h : PGsM X E es vs gs) (hn : (assignEach es X.env).length = n := by rfl) (hst : (assignEach es X.env).findIdx? (·.1) = none := by rfl) : PGM X E (.Tuple es k pos) vs (gLs n gs) :=
  pg_imp (pg_lst hc h hn hst) fun v σ H Q ⟨ρ, s, S, w, rep, env, r, o⟩ => by
    unfold gLs at o
    cases e : seqL S w with
    | none => rw [e] at o; exact o.elim
    | some ws =>
      rw [e] at o
      obtain ⟨a, vs', rfl, hl, hr⟩ := seqL_of rep r e
      dsimp only at o
      split at o
      · rename_i hz; exact ⟨_, _, rfl, hl, by rw [← hr.length]; exact hz, ρ, s, S, ws, rep, env, hr, o⟩
      · exact o.elim
def mAsg (ma : SM W) (g : GM) : SS := fun s S => (ma s S).bind fun w S1 => (g w s S1).bind fun s' S2 => .ok (.nx, s') S2
theorem asg_of {g : GM} {D : Ends} {σ : L2.St} {H : Hp} (h : tS X E (mAsg ma g) D σ H) : tAsg (tE X E ma) (tG X E vs g) D σ H :=
  tS.bind h fun ρ1 H1 w x s S1 rep env r o => ⟨ρ1, s, S1, w, rep, env, r, OutS.bind o fun ρ2 H2 s' σ' S2 e rep2 hh o2 => OutS.nx o2 rep2 hh.1⟩
theorem psm_asg {tg : Expr} {g : GM} (ha : PM X E a ma) (hg : PGM X E tg vs g) (hs : swapsWithSole [tg] a pos.line X.env = pure false := by rfl) (hw : swappedStores [tg] a X.env = pure none := by rfl) (h1 : (assignEach [tg] X.env).map (·.2) = [assign tg X.env] := by rfl) : PSM X E (.Assign [tg] a pos) (mAsg ma g) :=
  ps_imp (ps_asg ha hg hs hw (h1 := h1)) fun D σ H h => asg_of h
/-- x = e -/
theorem psm_set (i : Nat) {x : Str} {p : Pos} (ha : PM X E a ma) (hN : X.N.Nodup) (hi : X.N[i]? = some x := by rfl) (hx : Loc X.env.scope x := by first | exact Or.inl rfl | exact Or.inr rfl) (hs : swapsWith a (some (.Name x p)) pos.line X.env = pure false := by rfl)
    (hf : X.fn x = true ∨ X.env.scope.names.lookup x = some .local := by first | exact .inl rfl | exact .inr rfl) : PSM X E (.Assign [.Name x p] a pos) (mAsg ma (gNm i)) :=
  ps_imp (ps_set hN hi hx ha hs hf) fun D σ H h => tS.bind h fun ρ1 H1 w x s S1 rep env r o => OutS.nx (s := s.set i (some w)) o rep (env.set i r)
/-- a, b = x, y (plain local names) -/
def mPar (i j : Nat) (mr : SM (List W)) : SS := fun s S => (mr s S).bind fun ws S1 => match ws with
  | [v, w] => .ok (.nx, (s.set i (some v)).set j (some w)) S1
  | _ => .bad
theorem psm_par (i j : Nat) {x y : Str} {mr : SM (List W)} {px py pt : Pos} {kt k2 pt2} (hc : X.calm = true) (hN : X.N.Nodup) (ha : PAM X E [a, b] mr) (hi : X.N[i]? = some x := by rfl) (hj : X.N[j]? = some y := by rfl) (hij : i ≠ j := by decide)
    (hx : X.env.scope.names.lookup x = some .local := by rfl) (hy : X.env.scope.names.lookup y = some .local := by rfl)
    (hw : swappedStores [.Tuple [.Name x px, .Name y py] kt pt] (.Tuple [a, b] k2 pt2) X.env = pure (some [x, y]) := by rfl)
    (hs : swapsWithSole [.Tuple [.Name x px, .Name y py] kt pt] (.Tuple [a, b] k2 pt2) pos.line X.env = pure false := by rfl) : PSM X E (.Assign [.Tuple [.Name x px, .Name y py] kt pt] (.Tuple [a, b] k2 pt2) pos) (mPar i j mr) :=
  ps_imp (ps_par hc hN hi hj hij hx hy ha hw hs) fun D σ H h => tS.bind h fun ρ1 H1 ws xs s S1 rep env r o => by
    match ws, r, o with
    | [], _, o => exact o.elim
    | [_], _, o => exact o.elim
    | _ :: _ :: _ :: _, _, o => exact o.elim
    | [v, w], r, o =>
      obtain ⟨v', w', rfl, r1, r2⟩ := r.two
      exact ⟨_, _, rfl, OutS.nx o rep ((env.set i r1).set j r2)⟩
def mPar3 (i j l : Nat) (mr : SM (List W)) : SS := fun s S => (mr s S).bind fun ws S1 => match ws with
  | [u, v, w] => .ok (.nx, ((s.set i (some u)).set j (some v)).set l (some w)) S1
  | _ => .bad
theorem psm_par3 (i j l : Nat) {x y z : Str} {c : Expr} {mr : SM (List W)} {px py pz pt : Pos} {kt k2 pt2} (hc : X.calm = true) (hN : X.N.Nodup) (ha : PAM X E [a, b, c] mr) (hi : X.N[i]? = some x := by rfl) (hj : X.N[j]? = some y := by rfl) (hl : X.N[l]? = some z := by rfl) (hij : i ≠ j := by decide) (hil : i ≠ l := by decide) (hjl : j ≠ l := by decide)
    (hx : X.env.scope.names.lookup x = some .local := by rfl) (hy : X.env.scope.names.lookup y = some .local := by rfl) (hz : X.env.scope.names.lookup z = some .local := by rfl)
    (hw : swappedStores [.Tuple [.Name x px, .Name y py, .Name z pz] kt pt] (.Tuple [a, b, c] k2 pt2) X.env = pure (some [x, y, z]) := by rfl)
    (hs : swapsWithSole [.Tuple [.Name x px, .Name y py, .Name z pz] kt pt] (.Tuple [a, b, c] k2 pt2) pos.line X.env = pure false := by rfl) : PSM X E (.Assign [.Tuple [.Name x px, .Name y py, .Name z pz] kt pt] (.Tuple [a, b, c] k2 pt2) pos) (mPar3 i j l mr) :=
  ps_imp (ps_par3 hc hN hi hj hl hij hil hjl hx hy hz ha hw hs) fun D σ H h => tS.bind h fun ρ1 H1 ws xs s S1 rep env r o => by
    match ws, r, o with
    | [], _, o => exact o.elim
    | [_], _, o => exact o.elim
    | [_, _], _, o => exact o.elim
    | _ :: _ :: _ :: _ :: _, _, o => exact o.elim
    | [u, v, w], r, o =>
      cases r with
      | cons r0 rr =>
        obtain ⟨v', w', rfl, r1, r2⟩ := rr.two
        exact ⟨_, _, _, rfl, OutS.nx o rep (((env.set i r0).set j r1).set l r2)⟩
/-- o[i] = e, o a list of the store -/
def gSetI (o i v : W) (S : Store) : Res Unit := match o with
  | .ref l => match i with
    | .int k => match S[l]? with
      | some (.lst ws) => match ixN ws.length k with
        | some j => .ok () (S.set l (.lst (ws.set j v)))
        | none => .bad
      | _ => .bad
    | _ => .bad
  | _ => .bad
def gSubI (mo mi : SM W) : GM := fun v s S => (mo s S).bind fun o S1 => (mi s S1).bind fun i S2 => (gSetI o i v S2).bind fun _ S3 => .ok s S3
theorem set_all : PSet X (fun o i v H Q => ∃ ρ S w1 w2 w3, RepS X.K X.mg ρ H S ∧ RW X.K X.mg ρ H w1 o ∧ RW X.K X.mg ρ H w2 i ∧ RW X.K X.mg ρ H w3 v ∧ Out X.K X.mg (fun _ _ (_ : Unit) (_ : Unit) => True) E ρ H (gSetI w1 w2 w3 S) (fun _ H' => Q H')) := by
  intro pins s σ H o i v ov iv u Q I ro ri rv ⟨ρ, S, w1, w2, w3, rep, r1, r2, r3, out⟩
  cases w1 with
  | ref l =>
    cases w2 with
    | int k =>
      cases r1 with
      | @ref l a hl =>
        cases e : S[l]? with
        | none => simp only [gSetI, e] at out; exact out.elim
        | some ob =>
          cases ob with
          | lst ws =>
            cases e2 : ixN ws.length k with
            | none => simp only [gSetI, e, e2] at out; exact out.elim
            | some j =>
              simp only [gSetI, e, e2] at out
              obtain ⟨a', h1, h2⟩ := rep.ob l _ e
              rw [hl] at h1; cases h1
              cases h2 with
              | @lst vs _ h3 h4 =>
                cases r2
                refine set_list pins s σ H _ _ _ ov iv u Q I ro ri rv ⟨a, vs, k, j, rfl, rfl, h3, by rw [← h4.length]; exact e2, ?_⟩
                have ma : a ∈ ρ.r := List.mem_of_getElem? hl
                have ex : Ext ρ H ρ (upd H a (.lst (vs.set j v))) := ⟨fun _ _ h => h, fun _ h => h, fun _ h => .inl h, fun b u hb n => by rw [upd_ne fun z : b = a => n (by rw [z]; exact ma)]; exact hb, fun _ h => .inl h, fun b _ hb => by
                  by_cases hz : b = a
                  · subst hz; rw [upd_same]; simp
                  · rw [upd_ne hz]; exact hb⟩
                obtain ⟨e3, rep3⟩ := rep.wr hl (o := .lst (vs.set j v)) (u := .lst (ws.set j w3)) (.lst upd_same ((h4.set r3 j).ext ex))
                exact out ρ _ () e3 rep3 True.intro
          | _ => simp only [gSetI, e] at out; exact out.elim
    | _ => exact out.elim
  | _ => exact out.elim
theorem pgm_sub (ho : PM X E o mo) (hi : PM X E i mi)
    (ha : ∀ v, assign (.Subscript o i pos) X.env v = (do
      let ov ← holding [v] (eval o X.env)
      let iv ← holding [v, ov] (eval i X.env)
      standAt pos
      holding [v, ov, iv] (setItem ov iv v)
      release [v, ov, iv] []) := by intros; rfl) : PGM X E (.Subscript o i pos) vs (gSubI mo mi) :=
  pg_imp (pg_sub ho hi set_all ha) fun v σ H Q ⟨ρ, s, S, w, rep, env, r, out⟩ => ⟨ρ, s, S, rep, env, Out.bind out fun ρ1 H1 w1 x1 S1 e1 rep1 r1 o1 => ⟨ρ1, s, S1, rep1, env.ext e1, Out.bind o1 fun ρ2 H2 w2 x2 S2 e2 rep2 r2 o2 => ⟨ρ2, S2, w1, w2, w, rep2, r1.ext e2, r2, (r.ext e1).ext e2, Out.bind o2 fun ρ3 H3 _ _ S3 e3 rep3 _ o3 => Out.here o3 rep3 ⟨((env.ext e1).ext e2).ext e3, rfl⟩⟩⟩⟩
/-- x op= e -/
def mAug (i : Nat) (g : W → W → Store → Res W) (ma : SM W) : SS := fun s S => match s[i]? with
  | some (some x) => (ma s S).bind fun y S1 => (g x y S1).bind fun z S2 => .ok (.nx, s.set i (some z)) S2
  | _ => .bad
def IpM (X : Cx) (E : XK) (op : Operator) (g : W → W → Store → Res W) : Prop := PIp X op (R2M X E g)
theorem psm_aug (i : Nat) {x : Str} {p : Pos} {op : Operator} {g : W → W → Store → Res W} (ho : IpM X E op g) (ha : PM X E a ma) (hN : X.N.Nodup) (hi : X.N[i]? = some x := by rfl) (hx : Loc X.env.scope x := by first | exact Or.inl rfl | exact Or.inr rfl)
    (hf : X.fn x = true ∨ X.env.scope.names.lookup x = some .local := by first | exact .inl rfl | exact .inr rfl) : PSM X E (.AugAssign (.Name x p) op a pos) (mAug i g ma) :=
  ps_imp (ps_aug hN hi hx ha ho hf) fun D σ H ⟨ρ, s, S, rep, env, o⟩ => by
    unfold mAug at o
    cases e : s[i]? with
    | none => rw [e] at o; exact o.elim
    | some q =>
      cases q with
      | none => rw [e] at o; exact o.elim
      | some w =>
        rw [e] at o
        obtain ⟨v, h1, h2⟩ := env.look i w e
        exact ⟨v, h1, ρ, s, S, rep, env, OutS.bind o fun ρ1 H1 y y' S1 e1 rep1 r1 o1 => ⟨ρ1, S1, w, y, rep1, h2.ext e1, r1, OutS.bind o1 fun ρ2 H2 z z' S2 e2 rep2 r2 o2 => OutS.nx o2 rep2 (((env.ext e1).ext e2).set i r2)⟩⟩
theorem im_add : IpM X E .Add (gI fun i j => i + j) := by
  intro pins s σ H x y v u Q I rx ry ⟨ρ, S, w1, w2, rep, r1, r2, o⟩
  cases w1 with
  | int i =>
    cases w2 with
    | int j => cases r1; cases r2; exact ip_add pins s σ H _ _ v u Q I rx ry ⟨i, j, rfl, rfl, Out.here o rep (.int _)⟩
    | _ => exact o.elim
  | _ => exact o.elim
end

/-! ### while -/
/-- so many turns at most -/
def mWhileN (nc : SM Bool) (mb : SS) : Nat → SS
  | 0 => fun _ _ => .bad
  | n + 1 => fun s S => (nc s S).bind fun k S1 => if k = true then (mb s S1).bind fun p S2 => match p with
      | (.nx, s2) => mWhileN nc mb n s2 S2
      | (.ct, s2) => mWhileN nc mb n s2 S2
      | (.bk, s2) => .ok (.nx, s2) S2
      | (.rt w, s2) => .ok (.rt w, s2) S2
    else .ok (.nx, s) S1
section
variable {X : Cx} {E : XK} {pos : Pos}
theorem psm_while {c : Expr} {body : List Stmt} {nc : SM Bool} {mb : SS} (n : Nat) (hp : PassesOwn (model X.prog X.w) X.A X.env X.xe) (hc : PTM X E c nc) (hb : PSsM X E body mb) : PSM X E (.While c body [] pos) (mWhileN nc mb n) :=
  ps_imp (ps_while hp hc hb) fun D σ H ⟨ρ, s, S, rep, env, o⟩ => by
    refine ⟨fun m σ' H' => ∃ ρ' s' S', RepS X.K X.mg ρ' H' S' ∧ REnv X.K X.mg ρ' H' s' σ' ∧ OutS X.K X.mg E ρ' H' (mWhileN nc mb m s' S') D, ⟨n, ρ, s, S, rep, env, o⟩, ?_⟩
    rintro m σ1 H1 ⟨ρ1, s1, S1, rep1, env1, o1⟩
    cases m with
    | zero => exact o1.elim
    | succ m =>
      refine ⟨ρ1, s1, S1, rep1, env1, OutS.bind o1 fun ρ2 H2 k k' S2 e2 rep2 r2 o2 => ?_⟩
      cases r2
      cases k with
      | false => rw [if_neg Bool.false_ne_true] at o2; rw [if_neg Bool.false_ne_true]; exact OutS.nx o2 rep2 (env1.ext e2)
      | true =>
        rw [if_pos rfl] at o2; rw [if_pos rfl]
        refine ⟨fun σ' H' => ∃ ρ' s' S', RepS X.K X.mg ρ' H' S' ∧ REnv X.K X.mg ρ' H' s' σ' ∧ OutS X.K X.mg E ρ' H' (mWhileN nc mb m s' S') D, fun σ' H' h => ⟨m, Nat.lt_succ_self m, h⟩, ρ2, s1, S2, rep2, env1.ext e2, ?_⟩
        cases e : mb s1 S2 with
        | ok p S3 =>
          obtain ⟨f, s3⟩ := p
          rw [e] at o2
          cases f with
          | nx => exact fun ρ3 H3 σ3 x rep3 env3 => ⟨ρ3, s3, S3, rep3, env3, OutS.ext x o2⟩
          | ct => exact fun ρ3 H3 σ3 x rep3 env3 => ⟨ρ3, s3, S3, rep3, env3, OutS.ext x o2⟩
          | bk => exact o2
          | rt w => exact o2
        | exc c ns ws S3 => rw [e] at o2; exact o2
        | bad => rw [e] at o2; exact o2
end

/-! ### what a for walks -/
/-- J walks the items ws, whatever happens beside -/
def RIt (K : PySem.W.Frag) (mg : Str → Option Value) : Rl It (List W) := fun ρ H ws J => ∀ ρ' H' S', Ext ρ H ρ' H' → RepS K mg ρ' H' S' → ∀ i : Nat,
  (∀ w, ws[i]? = some w → J.go i H' ∧ ∀ x H2, J.yld i H' x H2 → Ext ρ' H' ρ' H2 ∧ RepS K mg ρ' H2 S' ∧ RW K mg ρ' H2 w x) ∧ (ws.length = i → J.stop i H')
def PIM (X : Cx) (E : XK) (tg iter : Expr) (mi : SM (List W)) : Prop := PI X tg iter (tX X.K X.mg (RIt X.K X.mg) E mi)
theorem pi_imp {X : Cx} {tg e : Expr} {t t' : TI} (h : PI X tg e t) (f : ∀ σ H R, t' σ H R → t σ H R) : PI X tg e t' := ⟨fun pins s σ H R I q => h.run pins s σ H R I (f σ H R q)⟩
/-- the items of a list (no object of the store) -/
def itL : W → Option (List W)
  | .lst ws => some ws
  | .flst ws => some ws
  | _ => none
section
variable {K : PySem.W.Frag} {mg : Str → Option Value} {ρ ρ' : RT} {H H' : Hp} {S : Store}
theorem itL_of {w : W} {x : V} {ws : List W} (r : RW K mg ρ H w x) (h : itL w = some ws) : ∃ a vs, x = .ref a ∧ RWs K mg ρ H ws vs ∧ ∀ ρ' H', Ext ρ H ρ' H' → SqL K H' a vs := by
  cases w with
  | lst us => cases h; cases r with | lst hf hr => exact ⟨_, _, rfl, hr, fun ρ' H' e => .inl (.inl (hf.ext e).1)⟩
  | flst us => cases h; cases r with | flst hf hr => exact ⟨_, _, rfl, hr, fun ρ' H' e => sqF_of (hf.imp (fun ⟨o, z⟩ => ⟨o, z.ext e⟩) id)⟩
  | _ => cases h
theorem tup_still {a : Addr} {vs : List V} (h : Fx ρ H a (.tup vs) ∨ KTup K a vs) (e : Ext ρ H ρ' H') : SqT K H' a vs := sqT_of (h.imp (fun z => z.ext e) id)
theorem rit_list {a : Addr} {ws : List W} {vs : List V} (r : RWs K mg ρ H ws vs) (hl : ∀ ρ' H', Ext ρ H ρ' H' → SqL K H' a vs) : RIt K mg ρ H ws (Itl K a) := fun ρ' H' S' e rep i => by
  refine ⟨fun w hw => ?_, fun hi => ⟨vs, hl _ _ e, by rw [← r.length, hi]; exact Nat.le_refl _⟩⟩
  obtain ⟨v, h1, h2⟩ := r.get hw
  refine ⟨⟨vs, v, hl _ _ e, h1⟩, fun x H2 hy => ?_⟩
  obtain ⟨rfl, hy⟩ := hy
  have : v = x := Option.some.inj (h1.symm.trans (hy vs (hl _ _ e)))
  subst this
  exact ⟨Ext.refl _ _, rep, h2.ext e⟩
theorem rit_tup {a : Addr} {ws : List W} {vs : List V} (r : RWs K mg ρ H ws vs) (hl : ∀ ρ' H', Ext ρ H ρ' H' → SqT K H' a vs) : RIt K mg ρ H ws (Itt K a) := fun ρ' H' S' e rep i => by
  refine ⟨fun w hw => ?_, fun hi => ⟨vs, hl _ _ e, by rw [← r.length, hi]; exact Nat.le_refl _⟩⟩
  obtain ⟨v, h1, h2⟩ := r.get hw
  refine ⟨⟨vs, v, hl _ _ e, h1⟩, fun x H2 hy => ?_⟩
  obtain ⟨rfl, hy⟩ := hy
  have : v = x := Option.some.inj (h1.symm.trans (hy vs (hl _ _ e)))
  subst this
  exact ⟨Ext.refl _ _, rep, h2.ext e⟩
def rngW (lo : Int) (n : Nat) : List W := (List.range n).map fun (i : Nat) => .int (lo + i)
theorem rngW_len (lo : Int) (n : Nat) : (rngW lo n).length = n := by simp [rngW]
theorem rngW_get {lo : Int} {n i : Nat} {w : W} (h : (rngW lo n)[i]? = some w) : i < n ∧ w = .int (lo + i) := by
  unfold rngW at h
  rw [List.getElem?_map] at h
  cases e : (List.range n)[i]? with
  | none => rw [e] at h; cases h
  | some j =>
    rw [e] at h
    obtain ⟨h1, h2⟩ := List.getElem?_eq_some_iff.mp e
    rw [List.getElem_range] at h2
    subst h2
    exact ⟨by simpa using h1, (Option.some.inj h).symm⟩
theorem rit_range {lo : Int} {n : Nat} : RIt K mg ρ H (rngW lo n) (Itr lo n) := fun ρ' H' S' e rep i => by
  refine ⟨fun w hw => ?_, fun hi => by rw [rngW_len] at hi; exact Nat.le_of_eq hi⟩
  obtain ⟨h1, rfl⟩ := rngW_get hw
  refine ⟨h1, fun x H2 hy => ?_⟩
  obtain ⟨rfl, rfl⟩ := hy
  exact ⟨Ext.refl _ _, rep, .int _⟩
def signs (x : Str) : List W := x.cps.toList.map fun c => .str ⟨#[c]⟩
theorem rit_str {x : Str} : RIt K mg ρ H (signs x) (Its x) := fun ρ' H' S' e rep i => by
  refine ⟨fun w hw => ?_, fun hi => by unfold signs at hi; rw [List.length_map, Array.length_toList] at hi; exact Nat.le_of_eq hi⟩
  unfold signs at hw
  rw [List.getElem?_map] at hw
  cases e2 : x.cps.toList[i]? with
  | none => rw [e2] at hw; cases hw
  | some c =>
    rw [e2] at hw
    cases (Option.some.inj hw)
    refine ⟨(by simpa using (List.getElem?_eq_some_iff.mp e2).1 : i < x.cps.size), fun y H2 hy => ?_⟩
    obtain ⟨rfl, c', h1, rfl⟩ := hy
    have : c = c' := by
      rw [Array.getElem?_toList] at e2
      exact Option.some.inj (e2.symm.trans h1)
    subst this
    exact ⟨Ext.refl _ _, rep, .str _⟩
theorem rw_pair {T : Addr} {w1 w2 : W} {x y : V} (rep : RepS K mg ρ H S) (hT : H T = none) (r1 : RW K mg ρ H w1 x) (r2 : RW K mg ρ H w2 y) : Ext ρ H ρ (upd H T (.tup [x, y])) ∧ RepS K mg ρ (upd H T (.tup [x, y])) S ∧ RW K mg ρ (upd H T (.tup [x, y])) (.tup [w1, w2]) (.ref T) := by
  obtain ⟨e, rep'⟩ := rep.tree hT (.tup [x, y])
  exact ⟨e, rep', .tup (.inl (fx_new rep hT _)) (.cons (r1.ext e) (.cons (r2.ext e) .nil))⟩
def zipW (ws us : List W) : List W := (ws.zip us).map fun p => .tup [p.1, p.2]
theorem zipW_get {ws us : List W} {i : Nat} {w : W} (h : (zipW ws us)[i]? = some w) : ∃ a b, ws[i]? = some a ∧ us[i]? = some b ∧ w = .tup [a, b] := by
  unfold zipW at h
  rw [List.getElem?_map] at h
  cases e : (ws.zip us)[i]? with
  | none => rw [e] at h; cases h
  | some p =>
    rw [e] at h
    obtain ⟨h1, h2⟩ := List.getElem?_zip_eq_some.mp e
    exact ⟨p.1, p.2, h1, h2, (Option.some.inj h).symm⟩
theorem rit_zipL {a b : Addr} {ws us : List W} {vs xs : List V} (r : RWs K mg ρ H ws vs) (r' : RWs K mg ρ H us xs) (hl : ∀ ρ' H', Ext ρ H ρ' H' → SqL K H' a vs) (hl' : ∀ ρ' H', Ext ρ H ρ' H' → SqL K H' b xs) : RIt K mg ρ H (zipW ws us) (Itz K a b) := fun ρ' H' S' e rep i => by
  refine ⟨fun w hw => ?_, fun hi => ⟨vs, xs, hl _ _ e, hl' _ _ e, ?_⟩⟩
  · obtain ⟨w1, w2, h1, h2, rfl⟩ := zipW_get hw
    obtain ⟨v1, g1, q1⟩ := r.get h1
    obtain ⟨v2, g2, q2⟩ := r'.get h2
    refine ⟨⟨vs, xs, v1, v2, hl _ _ e, hl' _ _ e, g1, g2⟩, fun x H2 hy => ?_⟩
    obtain ⟨T, x1, x2, rfl, hT, rfl, f1, f2⟩ := hy
    have e1 : v1 = x1 := Option.some.inj (g1.symm.trans (f1 vs (hl _ _ e)))
    have e2 : v2 = x2 := Option.some.inj (g2.symm.trans (f2 xs (hl' _ _ e)))
    subst e1 e2
    exact rw_pair rep hT (q1.ext e) (q2.ext e)
  · unfold zipW at hi
    rw [List.length_map, List.length_zip] at hi
    rw [← r.length, ← r'.length]
    omega
theorem rit_zipT {a b : Addr} {ws us : List W} {vs xs : List V} (r : RWs K mg ρ H ws vs) (r' : RWs K mg ρ H us xs) (hl : ∀ ρ' H', Ext ρ H ρ' H' → SqT K H' a vs) (hl' : ∀ ρ' H', Ext ρ H ρ' H' → SqT K H' b xs) : RIt K mg ρ H (zipW ws us) (RZ.ItzT K a b) := fun ρ' H' S' e rep i => by
  refine ⟨fun w hw => ?_, fun hi => ⟨vs, xs, hl _ _ e, hl' _ _ e, ?_⟩⟩
  · obtain ⟨w1, w2, h1, h2, rfl⟩ := zipW_get hw
    obtain ⟨v1, g1, q1⟩ := r.get h1
    obtain ⟨v2, g2, q2⟩ := r'.get h2
    refine ⟨⟨vs, xs, v1, v2, hl _ _ e, hl' _ _ e, g1, g2⟩, fun x H2 hy => ?_⟩
    obtain ⟨T, x1, x2, rfl, hT, rfl, f1, f2⟩ := hy
    have e1 : v1 = x1 := Option.some.inj (g1.symm.trans (f1 vs (hl _ _ e)))
    have e2 : v2 = x2 := Option.some.inj (g2.symm.trans (f2 xs (hl' _ _ e)))
    subst e1 e2
    exact rw_pair rep hT (q1.ext e) (q2.ext e)
  · unfold zipW at hi
    rw [List.length_map, List.length_zip] at hi
    rw [← r.length, ← r'.length]
    omega
theorem rit_enum {a : Addr} {ws : List W} {vs : List V} (r : RWs K mg ρ H ws vs) (hl : ∀ ρ' H', Ext ρ H ρ' H' → SqL K H' a vs) : RIt K mg ρ H (zipW (rngW 0 ws.length) ws) (Ite K a) := fun ρ' H' S' e rep i => by
  have wk := (walk_enum (K := K) (a := a) (xs := vs))
  refine ⟨fun w hw => ?_, fun hi => ?_⟩
  · obtain ⟨w1, w2, h1, h2, rfl⟩ := zipW_get hw
    obtain ⟨hlt, rfl⟩ := rngW_get h1
    obtain ⟨v2, g2, q2⟩ := r.get h2
    have hi : i < vs.length := (List.getElem?_eq_some_iff.mp g2).1
    refine ⟨wk.goes i H' hi (hl _ _ e), fun x H2 hy => ?_⟩
    obtain ⟨T, x1, x2, rfl, hT, rfl, f1, f2⟩ := wk.yields i H' x H2 hi (hl _ _ e) hy
    have e1 : x1 = .int (0 + (i : Nat)) := by rw [Int.zero_add]; exact (Option.some.inj f1).symm
    have e2 : v2 = x2 := Option.some.inj (g2.symm.trans f2)
    subst e1 e2
    exact rw_pair rep hT (.int _) (q2.ext e)
  · unfold zipW at hi
    rw [List.length_map, List.length_zip, rngW_len, Nat.min_self] at hi
    have hi2 : vs.length = i := by rw [← r.length]; exact hi
    subst hi2
    exact wk.stops H' (hl _ _ e)
end
end RL
end

section
set_option maxRecDepth 100000
set_option maxHeartbeats 2000000
namespace RL
open PySem PySem.Spec L2
open PyProof.Rows hiding St

/-! ### iterators: fixed items, or a list of the store as it stands at each turn -/
inductive ItW where
  | fix (ws : List W)
  | gen (nx : Nat → Store → Option (Option W))
def RI (K : PySem.W.Frag) (mg : Str → Option Value) : Rl It ItW := fun ρ H it J => match it with
  | .fix ws => RIt K mg ρ H ws J
  | .gen nx => ∀ ρ' H' S', Ext ρ H ρ' H' → RepS K mg ρ' H' S' → ∀ i : Nat, match nx i S' with
    | none => True
    | some none => J.stop i H'
    | some (some w) => J.go i H' ∧ ∀ x H2, J.yld i H' x H2 → Ext ρ' H' ρ' H2 ∧ RepS K mg ρ' H2 S' ∧ RW K mg ρ' H2 w x
def PIM' (X : Cx) (E : XK) (tg iter : Expr) (mi : SM ItW) : Prop := PI X tg iter (tX X.K X.mg (RI X.K X.mg) E mi)
/-- the list at place l of the store -/
def lstAt (S : Store) (l : Nat) : Option (List W) := match S[l]? with
  | some (.lst ws) => some ws
  | _ => none
theorem lstAt_of {K : PySem.W.Frag} {mg : Str → Option Value} {ρ : RT} {H : Hp} {S : Store} {l : Nat} {a : Addr} {ws : List W} (rep : RepS K mg ρ H S) (hl : ρ.r[l]? = some a) (h : lstAt S l = some ws) : ∃ vs, H a = some (.lst vs) ∧ RWs K mg ρ H ws vs := by
  unfold lstAt at h
  cases e : S[l]? with
  | none => rw [e] at h; cases h
  | some ob =>
    cases ob with
    | lst us =>
      rw [e] at h
      cases (Option.some.inj h : us = ws)
      obtain ⟨a', h1, h2⟩ := rep.ob l _ e
      rw [hl] at h1; cases h1
      cases h2 with | lst h3 h4 => exact ⟨_, h3, h4⟩
    | _ => rw [e] at h; cases h

/-- a list of the store, as it stands at each turn -/
def nxL (l : Nat) : Nat → Store → Option (Option W) := fun i S => (lstAt S l).map fun ws => ws[i]?
theorem ri_dyn {K : PySem.W.Frag} {mg : Str → Option Value} {ρ : RT} {H : Hp} {l : Nat} {a : Addr} (hl : ρ.r[l]? = some a) : RI K mg ρ H (.gen (nxL l)) (Itl K a) := by
  intro ρ' H' S' e rep i
  unfold nxL
  cases e1 : lstAt S' l with
  | none => trivial
  | some us =>
    obtain ⟨vs', h1, h2⟩ := lstAt_of rep (e.pre _ _ hl) e1
    dsimp only [Option.map_some]
    cases e2 : us[i]? with
    | none =>
      have hle : vs'.length ≤ i := by rw [← h2.length]; exact List.getElem?_eq_none_iff.mp e2
      exact ⟨vs', .inl (.inl h1), hle⟩
    | some w =>
      obtain ⟨v, g1, g2⟩ := h2.get e2
      refine ⟨⟨vs', v, .inl (.inl h1), g1⟩, fun x H2 hy => ?_⟩
      obtain ⟨rfl, hy⟩ := hy
      have ev : v = x := Option.some.inj (g1.symm.trans (hy vs' (.inl (.inl h1))))
      subst ev
      exact ⟨Ext.refl _ _, rep, g2⟩
def mItems (m : SM W) : SM ItW := fun s S => (m s S).bind fun w S1 => match w with
  | .lst ws => .ok (.fix ws) S1
  | .flst ws => .ok (.fix ws) S1
  | .tup ws => .ok (.fix ws) S1
  | .str x => .ok (.fix (signs x)) S1
  | .ref l => match lstAt S1 l with
    | some _ => .ok (.gen (nxL l)) S1
    | none => .bad
  | _ => .bad
def iAny (K : PySem.W.Frag) (te : TE) : TI := fun σ H R => te σ H fun x H1 => (∃ a, x = .ref a ∧ (∃ xs, SqL K H1 a xs) ∧ R (Itl K a) H1) ∨ (∃ a, x = .ref a ∧ (∃ xs, SqT K H1 a xs) ∧ R (Itt K a) H1) ∨ ∃ z, x = .str z ∧ R (Its z) H1
section
variable {X : Cx} {E : XK} {pos : Pos} {tg a b : Expr} {ma : SM W} {es : List Expr}
theorem pi_any {te : TE} (ha : PE X a te) : PI X tg a (iAny X.K te) := by
  refine ⟨fun pins s σ H R I h => ?_⟩
  refine thn (ha.run pins s σ H _ I h) fun v s1 ⟨x, H1, I1, r1, q1⟩ => ?_
  rcases q1 with ⟨p, e, ⟨xs, hq⟩, q⟩ | ⟨p, e, ⟨xs, hq⟩, q⟩ | ⟨z, e, q⟩
  · subst e
    cases r1
    obtain ⟨its, rv, pp, hz⟩ := I1.list hq
    refine wpAny_pyIter_list pp.isList ?_
    refine ⟨s1.heap.objs.size, [s1.heap.objs.size], _, _, H1, rfl, I1.kept (t' := s1.toks) fun b o e => Heap.get?_push_of_some _ e, turn_list p _, ⟨_, Heap.get?_push_size _ rfl, rfl, rfl⟩, fun b hb => ?_, q⟩
    have e : b = s1.heap.objs.size := by simpa using hb
    subst e
    exact I1.fpOk (Nat.le_refl _) (I1.hok.fresh (Nat.le_refl _))
  · subst e
    cases r1
    obtain ⟨its, rv, pp, hz⟩ := I1.tuple hq
    refine wpAny_pyIter_tuple (show s1.heap.IsTuple p its.toArray from pp) ?_
    refine ⟨s1.heap.objs.size, [s1.heap.objs.size], _, _, H1, rfl, I1.kept (t' := s1.toks) fun b o e => Heap.get?_push_of_some _ e, turn_tuple p _, ⟨_, Heap.get?_push_size _ rfl, rfl, rfl⟩, fun b hb => ?_, q⟩
    have e : b = s1.heap.objs.size := by simpa using hb
    subst e
    exact I1.fpOk (Nat.le_refl _) (I1.hok.fresh (Nat.le_refl _))
  · subst e
    obtain ⟨t, rfl⟩ := r1
    cases ha : z.cps.all (· < 128)
    · exact wpAny_pyIter_wide ha (pi_one (tk := s1.toks) I1 _ (turn_str _ z t "str_iterator" (.inr rfl)) ⟨_, Heap.get?_push_size _ rfl, rfl, rfl⟩ q)
    · exact wpAny_pyIter_ascii ha (pi_one (tk := s1.toks) I1 _ (turn_str _ z t "str_ascii_iterator" (.inl rfl)) ⟨_, Heap.get?_push_size _ rfl, rfl, rfl⟩ q)
theorem pim_any (ha : PM X E a ma) : PIM' X E tg a (mItems ma) := pi_imp (pi_any ha) fun σ H R h => tX.bind h fun ρ1 H1 w x s S1 rep env r o => by
  cases w with
  | lst ws =>
    obtain ⟨p, vs, rfl, hr, hs⟩ := itL_of r (ws := ws) rfl
    exact .inl ⟨p, rfl, ⟨vs, hs _ _ (Ext.refl _ _)⟩, Out.here o rep (rit_list hr hs)⟩
  | flst ws =>
    obtain ⟨p, vs, rfl, hr, hs⟩ := itL_of r (ws := ws) rfl
    exact .inl ⟨p, rfl, ⟨vs, hs _ _ (Ext.refl _ _)⟩, Out.here o rep (rit_list hr hs)⟩
  | tup ws =>
    cases r with
    | tup hf hr => exact .inr (.inl ⟨_, rfl, ⟨_, sqT_of hf⟩, Out.here o rep (rit_tup hr fun ρ' H' e => tup_still hf e)⟩)
  | str z => cases r; exact .inr (.inr ⟨z, rfl, Out.here o rep rit_str⟩)
  | ref l =>
    cases r with
    | @ref l p hl =>
      have o : Out X.K X.mg (RI X.K X.mg) E ρ1 H1 (match lstAt S1 l with
        | some _ => Res.ok (ItW.gen (nxL l)) S1
        | none => Res.bad) R := o
      cases e : lstAt S1 l with
      | none => rw [e] at o; exact o.elim
      | some ws =>
        rw [e] at o
        obtain ⟨vs, h1, h2⟩ := lstAt_of rep hl e
        exact .inl ⟨p, rfl, ⟨vs, .inl (.inl h1)⟩, Out.here o rep (ri_dyn hl)⟩
  | _ => exact o.elim
def okR (j : Int) : Bool := decide (-(2 ^ 62) ≤ j) && decide (j < 2 ^ 62)
def mRange1 (mr : SM (List W)) : SM ItW := fun s S => (mr s S).bind fun ws S1 => match ws with
  | [.int j] => if okR j = true then .ok (.fix (rngW 0 j.toNat)) S1 else .bad
  | _ => .bad
theorem pim_range1 {mr : SM (List W)} {p : Pos} (hm : X.mg "range" = none) (ha : PAM X E [a] mr) (hg : Gl X "range" := by rfl) (hs : starEach [a] X.env = [(false, eval a X.env)] := by rfl) : PIM' X E tg (.Call (.Name "range" p) [a] [] pos) (mRange1 mr) :=
  pi_imp (pi_range1 hg hm ha hs) fun σ H R h => tX.bind h fun ρ1 H1 ws xs s S1 rep env r o => by
    match ws, r, o with
    | [], _, o => exact o.elim
    | [w], r, o =>
      obtain ⟨x, rfl, r1⟩ := r.one
      cases w with
      | int j =>
        cases r1
        have o : Out X.K X.mg (RI X.K X.mg) E ρ1 H1 (if okR j = true then Res.ok (ItW.fix (rngW 0 j.toNat)) S1 else Res.bad) R := o
        split at o
        · rename_i hz
          simp only [okR, Bool.and_eq_true, decide_eq_true_eq] at hz
          exact ⟨j, rfl, hz.1, hz.2, Out.here o rep rit_range⟩
        · exact o.elim
      | _ => exact o.elim
    | w :: _ :: _, _, o => cases w <;> exact o.elim
def mRange2 (mr : SM (List W)) : SM ItW := fun s S => (mr s S).bind fun ws S1 => match ws with
  | [.int i, .int j] => if okR i = true ∧ okR j = true then .ok (.fix (rngW i (j - i).toNat)) S1 else .bad
  | _ => .bad
theorem pim_range2 {mr : SM (List W)} {p : Pos} (hm : X.mg "range" = none) (ha : PAM X E [a, b] mr) (hg : Gl X "range" := by rfl) (hs : starEach [a, b] X.env = [(false, eval a X.env), (false, eval b X.env)] := by rfl) (hs2 : starEach [b] X.env = [(false, eval b X.env)] := by rfl) : PIM' X E tg (.Call (.Name "range" p) [a, b] [] pos) (mRange2 mr) :=
  pi_imp (pi_range2 hg hm ha hs hs2) fun σ H R h => tX.bind h fun ρ1 H1 ws xs s S1 rep env r o => by
    match ws, r, o with
    | [], _, o => exact o.elim
    | [w], _, o => cases w <;> exact o.elim
    | [w, w'], r, o =>
      obtain ⟨x, y, rfl, r1, r2⟩ := r.two
      cases w with
      | int i =>
        cases w' with
        | int j =>
          cases r1; cases r2
          have o : Out X.K X.mg (RI X.K X.mg) E ρ1 H1 (if okR i = true ∧ okR j = true then Res.ok (ItW.fix (rngW i (j - i).toNat)) S1 else Res.bad) R := o
          split at o
          · rename_i hz
            simp only [okR, Bool.and_eq_true, decide_eq_true_eq] at hz
            exact ⟨i, j, rfl, ⟨hz.1.1, hz.1.2, hz.2.1, hz.2.2⟩, Out.here o rep rit_range⟩
          · exact o.elim
        | _ => exact o.elim
      | _ => exact o.elim
    | w :: w' :: _ :: _, _, o => cases w <;> first | (cases w' <;> exact o.elim) | exact o.elim
/-- zip of two lists, one of them of the store -/
def nxZ (w w' : W) : Nat → Store → Option (Option W) := fun i S => match seqL S w, seqL S w' with
  | some a, some b => some ((zipW a b)[i]?)
  | _, _ => none
def zipG (w w' : W) (S : Store) : Res ItW := match seqL S w, seqL S w' with
  | some _, some _ => .ok (.gen (nxZ w w')) S
  | _, _ => .bad
theorem ri_zip {K : PySem.W.Frag} {mg : Str → Option Value} {ρ : RT} {H : Hp} {w w' : W} {a b : Addr} (r : RW K mg ρ H w (.ref a)) (r' : RW K mg ρ H w' (.ref b)) : RI K mg ρ H (.gen (nxZ w w')) (Itz K a b) := by
  intro ρ' H' S' e rep i
  unfold nxZ
  cases e1 : seqL S' w with
  | none => trivial
  | some us =>
    cases e2 : seqL S' w' with
    | none => trivial
    | some us' =>
      obtain ⟨p, vs, ep, h1, g1⟩ := seqL_of rep (r.ext e) e1
      obtain ⟨p', vs', ep', h2, g2⟩ := seqL_of rep (r'.ext e) e2
      cases ep; cases ep'
      dsimp only
      cases e3 : (zipW us us')[i]? with
      | none =>
        have hz := List.getElem?_eq_none_iff.mp e3
        unfold zipW at hz
        rw [List.length_map, List.length_zip] at hz
        refine ⟨vs, vs', h1, h2, ?_⟩
        rw [← g1.length, ← g2.length]
        omega
      | some u =>
        obtain ⟨w1, w2, k1, k2, rfl⟩ := zipW_get e3
        obtain ⟨v1, j1, q1⟩ := g1.get k1
        obtain ⟨v2, j2, q2⟩ := g2.get k2
        refine ⟨⟨vs, vs', v1, v2, h1, h2, j1, j2⟩, fun x H2 hy => ?_⟩
        obtain ⟨T, x1, x2, rfl, hT, rfl, f1, f2⟩ := hy
        have e1 : v1 = x1 := Option.some.inj (j1.symm.trans (f1 vs h1))
        have e2 : v2 = x2 := Option.some.inj (j2.symm.trans (f2 vs' h2))
        subst e1 e2
        exact rw_pair rep hT q1 q2
/-- zip of two lists, of two tuples -/
def mZip (mr : SM (List W)) : SM ItW := fun s S => (mr s S).bind fun ws S1 => match ws with
  | [w, w'] => match itL w, itL w' with
    | some a, some b => .ok (.fix (zipW a b)) S1
    | _, _ => match tupL w, tupL w' with
      | some a, some b => .ok (.fix (zipW a b)) S1
      | _, _ => zipG w w' S1
  | _ => .bad
theorem pim_zip {mr : SM (List W)} {p tpos : Pos} {elts : List Expr} {kk : Nat} (hm : X.mg "zip" = none) (ha : PAM X E [a, b] mr) (hg : Gl X "zip" := by rfl) (hs : starEach [a, b] X.env = (false, eval a X.env) :: starEach [b] X.env := by rfl) (hpl : (backTo pos (starEach [b] X.env)).any (·.1) = false := by rfl) :
    PIM' X E (.Tuple elts kk tpos) (.Call (.Name "zip" p) [a, b] [] pos) (mZip mr) :=
  pi_imp (RZ.pi_zipA hg hm ha hs hpl) fun σ H R h => tX.bind h fun ρ1 H1 ws xs s S1 rep env r o => by
    match ws, r, o with
    | [], _, o => exact o.elim
    | [_], _, o => exact o.elim
    | _ :: _ :: _ :: _, _, o => exact o.elim
    | [w, w'], r, o =>
      obtain ⟨x, y, rfl, r1, r2⟩ := r.two
      have o : Out X.K X.mg (RI X.K X.mg) E ρ1 H1 (match itL w, itL w' with
        | some a, some b => Res.ok (ItW.fix (zipW a b)) S1
        | _, _ => match tupL w, tupL w' with
          | some a, some b => Res.ok (ItW.fix (zipW a b)) S1
          | _, _ => zipG w w' S1) R := o
      have two : (itL w = none ∨ itL w' = none) → Out X.K X.mg (RI X.K X.mg) E ρ1 H1 (match tupL w, tupL w' with
          | some a, some b => Res.ok (ItW.fix (zipW a b)) S1
          | _, _ => zipG w w' S1) R := fun hn => by
        cases e1 : itL w with
        | none => rw [e1] at o; exact o
        | some _ =>
          cases e2 : itL w' with
          | none => rw [e1, e2] at o; exact o
          | some _ =>
            rcases hn with z | z
            · rw [e1] at z; cases z
            · rw [e2] at z; cases z
      have tups : (itL w = none ∨ itL w' = none) → ∃ a b xs ys, [x, y] = [V.ref a, V.ref b] ∧ ((SqL X.K H1 a xs ∧ SqL X.K H1 b ys ∧ R (Itz X.K a b) H1) ∨ (SqT X.K H1 a xs ∧ SqT X.K H1 b ys ∧ R (RZ.ItzT X.K a b) H1)) := fun hn => by
        have o := two hn
        have gen : Out X.K X.mg (RI X.K X.mg) E ρ1 H1 (zipG w w' S1) R → ∃ a b xs ys, [x, y] = [V.ref a, V.ref b] ∧ ((SqL X.K H1 a xs ∧ SqL X.K H1 b ys ∧ R (Itz X.K a b) H1) ∨ (SqT X.K H1 a xs ∧ SqT X.K H1 b ys ∧ R (RZ.ItzT X.K a b) H1)) := fun o => by
          unfold zipG at o
          cases e1 : seqL S1 w with
          | none => rw [e1] at o; exact o.elim
          | some us =>
            cases e2 : seqL S1 w' with
            | none => rw [e1, e2] at o; exact o.elim
            | some us' =>
              rw [e1, e2] at o
              obtain ⟨p, vs, rfl, h1, g1⟩ := seqL_of rep r1 e1
              obtain ⟨p', vs', rfl, h2, g2⟩ := seqL_of rep r2 e2
              exact ⟨_, _, _, _, rfl, .inl ⟨h1, h2, Out.here o rep (ri_zip r1 r2)⟩⟩
        cases w with
        | tup us =>
          cases w' with
          | tup us' =>
            cases r1 with
            | tup hf hr =>
              cases r2 with
              | tup hf' hr' => exact ⟨_, _, _, _, rfl, .inr ⟨sqT_of hf, sqT_of hf', Out.here o rep (rit_zipT hr hr' (fun ρ' H' e => tup_still hf e) fun ρ' H' e => tup_still hf' e)⟩⟩
          | _ => exact gen o
        | _ => exact gen o
      cases e1 : itL w with
      | none => exact tups (.inl e1)
      | some us =>
        cases e2 : itL w' with
        | none => exact tups (.inr e2)
        | some us' =>
          rw [e1, e2] at o
          obtain ⟨p, vs, rfl, hr, hs⟩ := itL_of r1 e1
          obtain ⟨p', vs', rfl, hr', hs'⟩ := itL_of r2 e2
          exact ⟨_, _, _, _, rfl, .inl ⟨hs _ _ (Ext.refl _ _), hs' _ _ (Ext.refl _ _), Out.here o rep (rit_zipL hr hr' hs hs')⟩⟩
def mEnum (mr : SM (List W)) : SM ItW := fun s S => (mr s S).bind fun ws S1 => match ws with
  | [w] => match itL w with
    | some a => .ok (.fix (zipW (rngW 0 a.length) a)) S1
    | _ => .bad
  | _ => .bad
theorem pim_enum {mr : SM (List W)} {p tpos : Pos} {elts : List Expr} {kk : Nat} (hm : X.mg "enumerate" = none) (ha : PAM X E [a] mr) (hg : Gl X "enumerate" := by rfl) (hs : starEach [a] X.env = [(false, eval a X.env)] := by rfl) :
    PIM' X E (.Tuple elts kk tpos) (.Call (.Name "enumerate" p) [a] [] pos) (mEnum mr) :=
  pi_imp (pi_enum hg hm ha hs) fun σ H R h => tX.bind h fun ρ1 H1 ws xs s S1 rep env r o => by
    match ws, r, o with
    | [], _, o => exact o.elim
    | _ :: _ :: _, _, o => exact o.elim
    | [w], r, o =>
      obtain ⟨x, rfl, r1⟩ := r.one
      have o : Out X.K X.mg (RI X.K X.mg) E ρ1 H1 (match itL w with
        | some a => Res.ok (ItW.fix (zipW (rngW 0 a.length) a)) S1
        | _ => Res.bad) R := o
      cases e1 : itL w with
      | none => rw [e1] at o; exact o.elim
      | some us =>
        rw [e1] at o
        obtain ⟨p, vs, rfl, hr, hs⟩ := itL_of r1 e1
        exact ⟨_, _, rfl, hs _ _ (Ext.refl _ _), Out.here o rep (rit_enum hr hs)⟩
end

/-! ### for -/
def mForL (g : GM) (mb : SS) : List W → SS
  | [] => fun s S => .ok (.nx, s) S
  | w :: r => fun s S => (g w s S).bind fun s1 S1 => (mb s1 S1).bind fun p S2 => match p with
    | (.nx, s2) => mForL g mb r s2 S2
    | (.ct, s2) => mForL g mb r s2 S2
    | (.bk, s2) => .ok (.nx, s2) S2
    | (.rt w, s2) => .ok (.rt w, s2) S2
/-- over the list at l; so many turns at most -/
def mForN (g : GM) (mb : SS) (l : Nat → Store → Option (Option W)) : Nat → Nat → SS
  | 0, _ => fun _ _ => .bad
  | n + 1, i => fun s S => match l i S with
    | none => .bad
    | some o => match o with
      | none => .ok (.nx, s) S
      | some w => (g w s S).bind fun s1 S1 => (mb s1 S1).bind fun p S2 => match p with
        | (.nx, s2) => mForN g mb l n (i + 1) s2 S2
        | (.ct, s2) => mForN g mb l n (i + 1) s2 S2
        | (.bk, s2) => .ok (.nx, s2) S2
        | (.rt w, s2) => .ok (.rt w, s2) S2
def turns : Nat := 100000
def mForI (it : ItW) (g : GM) (mb : SS) : SS := match it with
  | .fix ws => mForL g mb ws
  | .gen l => mForN g mb l turns 0
def mFor (mi : SM ItW) (g : GM) (mb : SS) : SS := fun s S => (mi s S).bind fun it S1 => mForI it g mb s S1
section
variable {X : Cx} {E : XK} {pos : Pos} {tg iter : Expr} {body : List Stmt} {mi : SM ItW} {g : GM} {mb : SS} {vs : List Nat}
/-- one turn, then the rest -/
theorem turn_of {ρ : RT} {H : Hp} {s : Env'} {S : Store} {D : Ends} {x : V} {σ : L2.St} {w : W} (rep : RepS X.K X.mg ρ H S) (env : REnv X.K X.mg ρ H s σ) (r : RW X.K X.mg ρ H w x) {rest : SS} {N : L2.St → Hp → Prop}
    (o : OutS X.K X.mg E ρ H ((g w s S).bind fun s1 S1 => (mb s1 S1).bind fun p S2 => match p with
      | (.nx, s2) => rest s2 S2
      | (.ct, s2) => rest s2 S2
      | (.bk, s2) => .ok (.nx, s2) S2
      | (.rt w, s2) => .ok (.rt w, s2) S2) D)
    (hN : ∀ ρ' H' σ' s' S', Ext ρ H ρ' H' → RepS X.K X.mg ρ' H' S' → REnv X.K X.mg ρ' H' s' σ' → OutS X.K X.mg E ρ' H' (rest s' S') D → N σ' H') :
    tG X E vs g x σ H fun σ2 H2 => tS X E mb { D with nx := N, ct := N, bk := D.nx } σ2 H2 := by
  refine ⟨ρ, s, S, w, rep, env, r, OutS.bind o fun ρ1 H1 s1 σ1 S1 e1 rep1 hh o1 => ⟨ρ1, s1, S1, rep1, hh.1, ?_⟩⟩
  cases e : mb s1 S1 with
  | ok p S2 =>
    obtain ⟨f, s2⟩ := p
    rw [e] at o1
    cases f with
    | nx => exact fun ρ2 H2 σ2 x rep2 env2 => hN ρ2 H2 σ2 s2 S2 (e1.trans x) rep2 env2 (OutS.ext x o1)
    | ct => exact fun ρ2 H2 σ2 x rep2 env2 => hN ρ2 H2 σ2 s2 S2 (e1.trans x) rep2 env2 (OutS.ext x o1)
    | bk => exact o1
    | rt w => exact o1
  | exc c ns ws S2 => rw [e] at o1; exact o1
  | bad => rw [e] at o1; exact o1
theorem psm_for (hp : PassesOwn (model X.prog X.w) X.A X.env X.xe) (hc : X.calm = true) (hi : PIM' X E tg iter mi) (hg : PGM X E tg vs g) (hb : PSsM X E body mb) (hs : ∀ x, foldedSetIterable iter X.env x = pure x := by intro _; rfl) : PSM X E (.For tg iter body [] pos) (mFor mi g mb) :=
  ps_imp (ps_for hp hc hi hg hb hs) fun D σ H h => tS.bind h fun ρ1 H1 it J s S1 rep env r o => by
    cases it with
    | fix ws =>
      refine ⟨fun i m σ' H' => m = ws.length - i ∧ i ≤ ws.length ∧ ∃ ρ' s' S', Ext ρ1 H1 ρ' H' ∧ RepS X.K X.mg ρ' H' S' ∧ REnv X.K X.mg ρ' H' s' σ' ∧ OutS X.K X.mg E ρ' H' (mForL g mb (ws.drop i) s' S') D, ⟨ws.length, by simp, Nat.zero_le _, ρ1, s, S1, Ext.refl _ _, rep, env, o⟩, ?_⟩
      rintro i m σ' H' ⟨rfl, hle, ρ', s', S', e, rep', env', o'⟩
      have rr := r ρ' H' S' e rep' i
      by_cases hlt : i < ws.length
      · have hw : ws[i]? = some ws[i] := List.getElem?_eq_getElem hlt
        obtain ⟨go, yl⟩ := rr.1 _ hw
        rw [List.drop_eq_getElem_cons hlt] at o'
        refine .inr ⟨go, fun σ2 H2 => ∃ ρ2 s2 S2, Ext ρ1 H1 ρ2 H2 ∧ RepS X.K X.mg ρ2 H2 S2 ∧ REnv X.K X.mg ρ2 H2 s2 σ2 ∧ OutS X.K X.mg E ρ2 H2 (mForL g mb (ws.drop (i + 1)) s2 S2) D, fun σ2 H2 h2 => ⟨ws.length - (i + 1), by omega, rfl, hlt, h2⟩, fun x H2 hy => ?_⟩
        obtain ⟨e2, rep2, r2⟩ := yl x H2 hy
        exact turn_of rep2 (env'.ext e2) r2 (OutS.ext e2 o') fun ρ3 H3 σ3 s3 S3 e3 rep3 env3 o3 => ⟨ρ3, s3, S3, (e.trans e2).trans e3, rep3, env3, o3⟩
      · have hi : ws.length = i := by omega
        rw [List.drop_eq_nil_of_le (Nat.le_of_eq hi)] at o'
        exact .inl ⟨rr.2 hi, OutS.nx o' rep' env'⟩
    | gen l =>
      refine ⟨fun i m σ' H' => ∃ ρ' s' S', Ext ρ1 H1 ρ' H' ∧ RepS X.K X.mg ρ' H' S' ∧ REnv X.K X.mg ρ' H' s' σ' ∧ OutS X.K X.mg E ρ' H' (mForN g mb l m i s' S') D, ⟨turns, ρ1, s, S1, Ext.refl _ _, rep, env, o⟩, ?_⟩
      rintro i m σ' H' ⟨ρ', s', S', e, rep', env', o'⟩
      cases m with
      | zero => exact o'.elim
      | succ m =>
        unfold mForN at o'
        have rr := r ρ' H' S' e rep' i
        cases e1 : l i S' with
        | none => rw [e1] at o'; exact o'.elim
        | some u =>
          rw [e1] at o' rr
          cases u with
          | none => exact .inl ⟨rr, OutS.nx o' rep' env'⟩
          | some w =>
            obtain ⟨go, yl⟩ := rr
            refine .inr ⟨go, fun σ2 H2 => ∃ ρ2 s2 S2, Ext ρ1 H1 ρ2 H2 ∧ RepS X.K X.mg ρ2 H2 S2 ∧ REnv X.K X.mg ρ2 H2 s2 σ2 ∧ OutS X.K X.mg E ρ2 H2 (mForN g mb l m (i + 1) s2 S2) D, fun σ2 H2 h2 => ⟨m, Nat.lt_succ_self m, h2⟩, fun x H2 hy => ?_⟩
            obtain ⟨e2, rep2, r2⟩ := yl x H2 hy
            exact turn_of rep2 (env'.ext e2) r2 (OutS.ext e2 o') fun ρ3 H3 σ3 s3 S3 e3 rep3 env3 o3 => ⟨ρ3, s3, S3, (e.trans e2).trans e3, rep3, env3, o3⟩
end

/-! ### comprehensions -/
/-- no exception here -/
def nox {α : Type} (r : Res α) : Res α := match r with
  | .exc _ _ _ _ => .bad
  | r => r
def mLcT (g : GM) (t : SM Bool) (e : SM W) (s0 : Env') (w : W) (acc : List W) (S : Store) : Res (List W) := (nox (g w s0 S)).bind fun s1 S1 => (nox (t s1 S1)).bind fun b S2 => if b = true then (nox (e s1 S2)).bind fun y S3 => if acc.length < lim then .ok (acc ++ [y]) S3 else .bad else .ok acc S2
def mLcL (g : GM) (t : SM Bool) (e : SM W) (s0 : Env') : List W → List W → Store → Res (List W)
  | [], acc, S => .ok acc S
  | w :: r, acc, S => (mLcT g t e s0 w acc S).bind fun acc S => mLcL g t e s0 r acc S
def mLcN (g : GM) (t : SM Bool) (e : SM W) (s0 : Env') (l : Nat → Store → Option (Option W)) : Nat → Nat → List W → Store → Res (List W)
  | 0, _, _, _ => .bad
  | n + 1, i, acc, S => match l i S with
    | none => .bad
    | some o => match o with
      | none => .ok acc S
      | some w => (mLcT g t e s0 w acc S).bind fun acc S => mLcN g t e s0 l n (i + 1) acc S
def mLcI (it : ItW) (g : GM) (t : SM Bool) (e : SM W) (s0 : Env') (S : Store) : Res (List W) := match it with
  | .fix ws => mLcL g t e s0 ws [] S
  | .gen l => mLcN g t e s0 l turns 0 [] S
def wipeW (s : Env') : List Nat → Env'
  | [] => s
  | v :: vs => (wipeW s vs).set v none
def mLc (mi : SM ItW) (vs : List Nat) (g : GM) (t : SM Bool) (e : SM W) : SM W := fun s S => (mi s S).bind fun it S1 => (mLcI it g t e (wipeW s vs) S1).bind fun acc S2 => .ok (.lst acc) S2
/-- .. where the list will be changed later -/
def mLcR (mi : SM ItW) (vs : List Nat) (g : GM) (t : SM Bool) (e : SM W) : SM W := fun s S => (mi s S).bind fun it S1 => (mLcI it g t e (wipeW s vs) S1).bind fun acc S2 => .ok (.ref S2.length) (S2 ++ [.lst acc])
section
variable {K : PySem.W.Frag} {mg : Str → Option Value} {ρ ρ' : RT} {H H' : Hp} {S : Store}
theorem env_wipe {s : Env'} {σ : L2.St} (h : REnv K mg ρ H s σ) : ∀ vs : List Nat, REnv K mg ρ H (wipeW s vs) (wipe σ vs)
  | [] => h
  | v :: vs => by
    have ih := env_wipe h vs
    unfold wipeW wipe
    refine ⟨by rw [List.length_set, List.length_set]; exact ih.len, fun i w hw => ?_⟩
    by_cases e : v = i
    · subst e
      by_cases hv : v < (wipeW s vs).length
      · rw [List.getElem?_set_self hv] at hw; cases hw
      · rw [List.getElem?_eq_none (by rw [List.length_set]; omega)] at hw; cases hw
    · rw [List.getElem?_set_ne e] at hw
      obtain ⟨x, h1, h2⟩ := ih.look i w hw
      exact ⟨x, by rw [List.getElem?_set_ne e]; exact h1, h2⟩
theorem wipe_wipe {σ : L2.St} {vs : List Nat} : ∀ {us : List Nat}, (∀ u ∈ us, u ∈ vs) → wipe (wipe σ us) vs = wipe σ vs
  | [], _ => rfl
  | u :: us, h => by
    show wipe ((wipe σ us).set u none) vs = _
    rw [wipe_set (h u List.mem_cons_self), wipe_wipe fun x hx => h x (List.mem_cons_of_mem _ hx)]
/-- fewer things in flux -/
theorem Fx.less {a : Addr} {o : HO} {t : List Addr} (h : Fx ρ H a o) (ht : ∀ b, b ∈ t → b ∈ ρ.t) : Fx ⟨ρ.r, t⟩ H a o := ⟨h.1, h.2.1, fun m => h.2.2 (ht a m)⟩
mutual
theorem RW.less {t : List Addr} (ht : ∀ b, b ∈ t → b ∈ ρ.t) : ∀ {w : W} {v : V}, RW K mg ρ H w v → RW K mg ⟨ρ.r, t⟩ H w v
  | _, _, .non => .non
  | _, _, .bl b => .bl b
  | _, _, .int b => .int b
  | _, _, .str b => .str b
  | _, _, .ty b => .ty b
  | _, _, .gl h => .gl h
  | _, _, .ref h => .ref h
  | _, _, .tup h r => .tup (h.imp (fun z => z.less ht) id) (RWs.less ht r)
  | _, _, .lst h r => .lst (h.less ht) (RWs.less ht r)
  | _, _, .flst h r => .flst (h.imp (fun ⟨o, z⟩ => ⟨o, z.less ht⟩) id) (RWs.less ht r)
  | _, _, .dic h hl r => .dic (h.less ht) hl (RWs.less ht r)
  | _, _, .ins hc h hl r => .ins hc (h.less ht) hl (RWs.less ht r)
  | _, _, .exn hc h hd hl r => .exn hc (h.less ht) (hd.less ht) hl (RWs.less ht r)
theorem RWs.less {t : List Addr} (ht : ∀ b, b ∈ t → b ∈ ρ.t) : ∀ {ws : List W} {vs : List V}, RWs K mg ρ H ws vs → RWs K mg ⟨ρ.r, t⟩ H ws vs
  | _, _, .nil => .nil
  | _, _, .cons h r => .cons (RW.less ht h) (RWs.less ht r)
end
theorem RO.less {t : List Addr} (ht : ∀ b, b ∈ t → b ∈ ρ.t) {a : Addr} {o : Ob} (h : RO K mg ρ H a o) : RO K mg ⟨ρ.r, t⟩ H a o := by
  cases h with
  | lst h r => exact .lst h (r.less ht)
  | dic h hl r => exact .dic h hl (r.less ht)
  | ins hc h hl r => exact .ins hc h hl (r.less ht)
theorem RepS.less {t : List Addr} (ht : ∀ b, b ∈ t → b ∈ ρ.t) (R : RepS K mg ρ H S) : RepS K mg ⟨ρ.r, t⟩ H S :=
  ⟨R.len, R.nd, fun l o hl => let ⟨a, h1, h2⟩ := R.ob l o hl; ⟨a, h1, h2.less ht⟩, fun a m => R.tk a (ht a m)⟩
/-- what is in flux is changed -/
theorem ext_flux {D : Addr} {o : HO} (hD : D ∈ ρ.t) : (∀ {a : Addr} {u : HO}, Fx ρ H a u → Fx ρ (upd H D o) a u) := fun {a u} h => ⟨by rw [upd_ne fun z : a = D => h.2.2 (by rw [z]; exact hD)]; exact h.1, h.2⟩
mutual
theorem RW.flux {D : Addr} {o : HO} (hD : D ∈ ρ.t) : ∀ {w : W} {v : V}, RW K mg ρ H w v → RW K mg ρ (upd H D o) w v
  | _, _, .non => .non
  | _, _, .bl b => .bl b
  | _, _, .int b => .int b
  | _, _, .str b => .str b
  | _, _, .ty b => .ty b
  | _, _, .gl h => .gl h
  | _, _, .ref h => .ref h
  | _, _, .tup h r => .tup (h.imp (fun z => ext_flux hD z) id) (RWs.flux hD r)
  | _, _, .lst h r => .lst (ext_flux hD h) (RWs.flux hD r)
  | _, _, .flst h r => .flst (h.imp (fun ⟨o, z⟩ => ⟨o, ext_flux hD z⟩) id) (RWs.flux hD r)
  | _, _, .dic h hl r => .dic (ext_flux hD h) hl (RWs.flux hD r)
  | _, _, .ins hc h hl r => .ins hc (ext_flux hD h) hl (RWs.flux hD r)
  | _, _, .exn hc h hd hl r => .exn hc (ext_flux hD h) (ext_flux hD hd) hl (RWs.flux hD r)
theorem RWs.flux {D : Addr} {o : HO} (hD : D ∈ ρ.t) : ∀ {ws : List W} {vs : List V}, RWs K mg ρ H ws vs → RWs K mg ρ (upd H D o) ws vs
  | _, _, .nil => .nil
  | _, _, .cons h r => .cons (RW.flux hD h) (RWs.flux hD r)
end
theorem RepS.flux {D : Addr} {o : HO} (hD : D ∈ ρ.t) (R : RepS K mg ρ H S) : RepS K mg ρ (upd H D o) S := by
  have ne : ∀ a, a ∈ ρ.r → a ≠ D := fun a m z => (R.tk D hD).2 (z ▸ m)
  refine ⟨R.len, R.nd, fun l ob hl => ?_, fun a m => ⟨?_, (R.tk a m).2⟩⟩
  · obtain ⟨a, h1, h2⟩ := R.ob l ob hl
    have hne := ne a (List.mem_of_getElem? h1)
    refine ⟨a, h1, ?_⟩
    cases h2 with
    | lst h r => exact .lst ((upd_ne hne).trans h) (r.flux hD)
    | dic h hl' r => exact .dic ((upd_ne hne).trans h) hl' (r.flux hD)
    | ins hc h hl' r => exact .ins hc ((upd_ne hne).trans h) hl' (r.flux hD)
  · by_cases z : a = D
    · subst z; rw [upd_same]; simp
    · rw [upd_ne z]; exact (R.tk a m).1
/-- a new thing in flux -/
theorem RepS.more {D : Addr} {o : HO} (hD : H D = none) (R : RepS K mg ρ H S) : Ext ρ H ⟨ρ.r, D :: ρ.t⟩ (upd H D o) ∧ RepS K mg ⟨ρ.r, D :: ρ.t⟩ (upd H D o) S := by
  have np := R.fresh hD
  have e : Ext ρ H ⟨ρ.r, D :: ρ.t⟩ (upd H D o) := ⟨fun _ _ h => h, fun b m => List.mem_cons_of_mem _ m, fun b m => (List.mem_cons.mp m).elim (fun z => .inr (z ▸ hD)) .inl, fun b u hb _ => by rw [upd_ne (ne_of_none hb hD)]; exact hb, fun _ h => .inl h, fun b m hb => by
    have n : b ≠ D := fun z => np.1 (z ▸ m)
    rw [upd_ne n]; exact hb⟩
  refine ⟨e, R.len, R.nd, fun l ob hl => ?_, fun a m => ?_⟩
  · obtain ⟨a, h1, h2⟩ := R.ob l ob hl
    exact ⟨a, h1, h2.ext e (upd_ne fun z => np.1 (z ▸ List.mem_of_getElem? h1))⟩
  · rcases List.mem_cons.mp m with z | z
    · subst z; exact ⟨by rw [upd_same]; simp, np.1⟩
    · exact ⟨by rw [upd_ne (fun q : a = D => np.2 (q ▸ z))]; exact (R.tk a z).1, (R.tk a z).2⟩
theorem Out.noxbind {α β γ δ : Type} {E : XK} {R : Rl β α} {R' : Rl δ γ} {ρ1 ρ3 : RT} {H1 H3 : Hp} {r : Res α} {k : α → Store → Res γ} {Q : δ → Hp → Prop} {Z : β → Hp → Prop} (h : Out K mg R' E ρ1 H1 ((nox r).bind k) Q)
    (f : ∀ ρ4 H4 a b S4, Ext ρ3 H3 ρ4 H4 → RepS K mg ρ4 H4 S4 → R ρ4 H4 a b → Out K mg R' E ρ1 H1 (k a S4) Q → Z b H4) : Out K mg R E0 ρ3 H3 r Z := by
  cases r with
  | ok w S => exact fun ρ4 H4 v e rep rw => f ρ4 H4 w v S e rep rw h
  | exc c ns ws S => exact h.elim
  | bad => exact h
end
theorem Res.bind_bind {α β γ : Type} (r : Res α) (k : α → Store → Res β) (l : β → Store → Res γ) : (r.bind k).bind l = r.bind fun a S => (k a S).bind l := by cases r <;> rfl
section
variable {X : Cx} {E : XK} {pos : Pos} {tg iter elt : Expr} {ifs : List Expr} {scope : Scope} {own : List (Str × Nat)} {mi : SM ItW} {g : GM} {t : SM Bool} {me : SM W} {vs : List Nat}
/-- one turn of a comprehension, the list so far at D -/
theorem lcT_of {ρ1 ρ : RT} {H1 H : Hp} {s0 : Env'} {σ : L2.St} {D : Addr} {acc : List W} {accV : List V} {S : Store} {w : W} {x : V} {γ δ : Type} {R' : Rl δ γ} {k : List W → Store → Res γ} {Q : δ → Hp → Prop} {Nx : Hp → Prop}
    (rep : RepS X.K X.mg ρ H S) (hD : D ∈ ρ.t) (env : REnv X.K X.mg ρ H s0 (wipe σ vs)) (r : RW X.K X.mg ρ H w x) (hd : H D = some (.lst accV)) (ra : RWs X.K X.mg ρ H acc accV)
    (o : Out X.K X.mg R' E ρ1 H1 ((mLcT g t me s0 w acc S).bind k) Q)
    (hN : ∀ ρ' H' acc' accV' S', (∃ H2, Ext ρ H ρ' H2 ∧ ∃ u, H' = upd H2 D u ∨ H' = H2) → RepS X.K X.mg ρ' H' S' → H' D = some (.lst accV') → RWs X.K X.mg ρ' H' acc' accV' → Out X.K X.mg R' E ρ1 H1 (k acc' S') Q → Nx H') :
    tG X E0 vs g x (wipe σ vs) H fun σ2 H2 => wipe σ2 vs = wipe σ vs ∧ tT X E0 t σ2 H2 fun b H3 => if b = true then tE X E0 me σ2 H3 fun y H4 => ∃ acc, H4 D = some (.lst acc) ∧ acc.length < sizeLine ∧ Nx (upd H4 D (.lst (acc ++ [y]))) else Nx H3 := by
  unfold mLcT at o
  rw [Res.bind_bind] at o
  refine ⟨ρ, s0, S, w, rep, env, r, Out.noxbind o fun ρ2 H2 s1 σ1 S2 e2 rep2 hh o2 => ⟨hh.2.trans (wipe_wipe fun _ h => h), ρ2, s1, S2, rep2, hh.1, ?_⟩⟩
  rw [Res.bind_bind] at o2
  refine Out.noxbind o2 fun ρ3 H3 b b' S3 e3 rep3 rb o3 => ?_
  cases rb
  have nr : D ∉ ρ.r := (rep.tk D hD).2
  have n2 : D ∉ ρ2.r := e2.not hd nr
  have hd2 := e2.keep _ _ hd nr
  have n3 : D ∉ ρ3.r := e3.not hd2 n2
  have hd3 := e3.keep _ _ hd2 n2
  have hD3 := e3.sub _ (e2.sub _ hD)
  cases b with
  | false =>
    rw [if_neg Bool.false_ne_true] at o3 ⊢
    exact hN ρ3 H3 acc accV S3 ⟨H3, e2.trans e3, .lst [], .inr rfl⟩ rep3 hd3 ((ra.ext e2).ext e3) o3
  | true =>
    rw [if_pos rfl] at o3 ⊢
    rw [Res.bind_bind] at o3
    refine ⟨ρ3, s1, S3, rep3, hh.1.ext e3, Out.noxbind o3 fun ρ4 H4 y y' S4 e4 rep4 r4 o4 => ?_⟩
    have hd4 := e4.keep _ _ hd3 n3
    have hD4 := e4.sub _ hD3
    have ra4 := (((ra.ext e2).ext e3).ext e4)
    split at o4
    · rename_i hz
      refine ⟨accV, hd4, by rw [← ra.length]; exact lim_lt hz, hN ρ4 _ (acc ++ [y]) (accV ++ [y']) S4 ⟨H4, (e2.trans e3).trans e4, _, .inl rfl⟩ (rep4.flux hD4) upd_same ((ra4.append (.cons r4 .nil)).flux hD4) o4⟩
    · exact o4.elim
theorem lc_of {mk : List W → Store → Res W} {σ : L2.St} {H : Hp} {Q : VK}
    (fin : ∀ (ρ1 ρ : RT) (H1 H : Hp) (D : Addr) (acc : List W) (accV : List V) (S : Store), (∀ a, a ∈ ρ1.t → a ∈ ρ.t) → H1 D = none → Ext ρ1 H1 ρ H → RepS X.K X.mg ρ H S → D ∈ ρ.t → H D = some (.lst accV) → RWs X.K X.mg ρ H acc accV → RepS X.K X.mg ⟨ρ.r, ρ1.t⟩ H S → D ∉ ρ1.t → Out X.K X.mg (RW X.K X.mg) E ρ1 H1 (mk acc S) Q → Q (.ref D) H)
    (h : tE X E (fun s S => (mi s S).bind fun it S1 => (mLcI it g t me (wipeW s vs) S1).bind mk) σ H Q) : tLc (tX X.K X.mg (RI X.K X.mg) E mi) (tG X E0 vs g) (tT X E0 t) (tE X E0 me) vs σ H Q :=
  tX.bind h fun ρ1 H1 it J s S1 rep env r o => fun D hD => by
    have np := rep.fresh hD
    obtain ⟨e0, rep0⟩ := rep.more (o := .lst []) hD
    -- the state behind some turns
    have go : ∀ {ρ ρ' : RT} {H H' : Hp} {accV : List V}, Ext ρ1 H1 ρ H → D ∉ ρ.r → (∃ H2, Ext ρ H ρ' H2 ∧ ∃ u, H' = upd H2 D u ∨ H' = H2) → Ext ρ1 H1 ρ' H' := fun {ρ ρ' H H' accV} e nr ⟨H2, e2, u, hu⟩ => by
      rcases hu with rfl | rfl
      · have e3 := e.trans e2
        exact ⟨e3.pre, e3.sub, e3.newt, fun b o hb n => by rw [upd_ne (ne_of_none hb hD)]; exact e3.keep b o hb n, e3.new, fun b m hb => by
          by_cases z : b = D
          · subst z; rw [upd_same]; simp
          · rw [upd_ne z]; exact e3.still b m hb⟩
      · exact e.trans e2
    cases it with
    | fix ws =>
      refine ⟨fun i m H' => m = ws.length - i ∧ i ≤ ws.length ∧ ∃ ρ acc accV S, Ext ρ1 H1 ρ H' ∧ RepS X.K X.mg ρ H' S ∧ D ∈ ρ.t ∧ H' D = some (.lst accV) ∧ RWs X.K X.mg ρ H' acc accV ∧ Out X.K X.mg (RW X.K X.mg) E ρ1 H1 ((mLcL g t me (wipeW s vs) (ws.drop i) acc S).bind mk) Q,
        ⟨ws.length, by simp, Nat.zero_le _, ⟨ρ1.r, D :: ρ1.t⟩, [], [], S1, e0, rep0, List.mem_cons_self, upd_same, .nil, o⟩, ?_⟩
      rintro i m H' ⟨rfl, hle, ρ, acc, accV, S, e, rep', hDt, hd, ra, o'⟩
      have rr := r ρ H' S e rep' i
      by_cases hlt : i < ws.length
      · have hw : ws[i]? = some ws[i] := List.getElem?_eq_getElem hlt
        obtain ⟨go1, yl⟩ := rr.1 _ hw
        rw [List.drop_eq_getElem_cons hlt] at o'
        unfold mLcL at o'
        rw [Res.bind_bind] at o'
        refine .inr ⟨go1, fun H2 => ∃ ρ acc accV S, Ext ρ1 H1 ρ H2 ∧ RepS X.K X.mg ρ H2 S ∧ D ∈ ρ.t ∧ H2 D = some (.lst accV) ∧ RWs X.K X.mg ρ H2 acc accV ∧ Out X.K X.mg (RW X.K X.mg) E ρ1 H1 ((mLcL g t me (wipeW s vs) (ws.drop (i + 1)) acc S).bind mk) Q, fun H2 h2 => ⟨ws.length - (i + 1), by omega, rfl, hlt, h2⟩, fun x H2 hy => ?_⟩
        obtain ⟨e2, rep2, r2⟩ := yl x H2 hy
        have nr := (rep'.tk D hDt).2
        refine lcT_of rep2 hDt ((env_wipe env vs).ext (e.trans e2)) r2 (e2.keep _ _ hd nr) (ra.ext e2) o' fun ρ3 H3 acc3 accV3 S3 hx rep3 hd3 ra3 o3 => ?_
        refine ⟨ρ3, acc3, accV3, S3, go (accV := []) (e.trans e2) nr hx, rep3, ?_, hd3, ra3, o3⟩
        obtain ⟨Hx, ex, _⟩ := hx
        exact ex.sub _ hDt
      · have hi : ws.length = i := by omega
        rw [List.drop_eq_nil_of_le (Nat.le_of_eq hi)] at o'
        exact .inl ⟨rr.2 hi, fin ρ1 ρ H1 H' D acc accV S e.sub hD e rep' hDt hd ra (rep'.less e.sub) np.2 o'⟩
    | gen l =>
      refine ⟨fun i m H' => ∃ ρ acc accV S, Ext ρ1 H1 ρ H' ∧ RepS X.K X.mg ρ H' S ∧ D ∈ ρ.t ∧ H' D = some (.lst accV) ∧ RWs X.K X.mg ρ H' acc accV ∧ Out X.K X.mg (RW X.K X.mg) E ρ1 H1 ((mLcN g t me (wipeW s vs) l m i acc S).bind mk) Q,
        ⟨turns, ⟨ρ1.r, D :: ρ1.t⟩, [], [], S1, e0, rep0, List.mem_cons_self, upd_same, .nil, o⟩, ?_⟩
      rintro i m H' ⟨ρ, acc, accV, S, e, rep', hDt, hd, ra, o'⟩
      cases m with
      | zero => exact o'.elim
      | succ m =>
        unfold mLcN at o'
        have rr := r ρ H' S e rep' i
        cases e1 : l i S with
        | none => rw [e1] at o'; exact o'.elim
        | some u =>
          rw [e1] at o' rr
          cases u with
          | none => exact .inl ⟨rr, fin ρ1 ρ H1 H' D acc accV S e.sub hD e rep' hDt hd ra (rep'.less e.sub) np.2 o'⟩
          | some w =>
            dsimp only at o'
            rw [Res.bind_bind] at o'
            obtain ⟨go1, yl⟩ := rr
            refine .inr ⟨go1, fun H2 => ∃ ρ acc accV S, Ext ρ1 H1 ρ H2 ∧ RepS X.K X.mg ρ H2 S ∧ D ∈ ρ.t ∧ H2 D = some (.lst accV) ∧ RWs X.K X.mg ρ H2 acc accV ∧ Out X.K X.mg (RW X.K X.mg) E ρ1 H1 ((mLcN g t me (wipeW s vs) l m (i + 1) acc S).bind mk) Q, fun H2 h2 => ⟨m, Nat.lt_succ_self m, h2⟩, fun x H2 hy => ?_⟩
            obtain ⟨e2, rep2, r2⟩ := yl x H2 hy
            have nr := (rep'.tk D hDt).2
            refine lcT_of rep2 hDt ((env_wipe env vs).ext (e.trans e2)) r2 (e2.keep _ _ hd nr) (ra.ext e2) o' fun ρ3 H3 acc3 accV3 S3 hx rep3 hd3 ra3 o3 => ?_
            refine ⟨ρ3, acc3, accV3, S3, go (accV := []) (e.trans e2) nr hx, rep3, ?_, hd3, ra3, o3⟩
            obtain ⟨Hx, ex, _⟩ := hx
            exact ex.sub _ hDt
def PTsM (X : Cx) (E : XK) (ifs : List Expr) (m : SM Bool) : Prop := PTs X ifs (tT X E m)
def mYes : SM Bool := fun _ S => .ok true S
theorem pts_imp {X : Cx} {e : List Expr} {t t' : TT} (h : PTs X e t) (f : ∀ σ H Q, t' σ H Q → t σ H Q) : PTs X e t' := ⟨fun pins s σ H Q I q => h.run pins s σ H Q I (f σ H Q q)⟩
theorem ptsm_nil : PTsM X E [] mYes := pts_imp pts_nil fun σ H Q ⟨ρ, s, S, rep, env, o⟩ => Out.here o rep rfl
theorem ptsm_one {c : Expr} {nc : SM Bool} (h : PTM X E c nc) : PTsM X E [c] nc := pts_one h
abbrev slots (own : List (Str × Nat)) : List Nat := own.map (·.2)
/-- the block's part of a comprehension, at every entry -/
structure Blk (X : Cx) (scope : Scope) (tg : Expr) (ifs : List Expr) (elt : Expr) (vs : List Nat) (g : GM) (t : SM Bool) (me : SM W) : Prop where
  g : ∀ (s : Shared) (H : Hp) (C : Addr) (cl : List (Str × Addr)) (fp : List Addr), PGM (X.blk s H scope (compEnvC scope cl C X.env) fp) E0 tg vs g
  t : ∀ (s : Shared) (H : Hp) (C : Addr) (cl : List (Str × Addr)) (fp : List Addr), PTsM (X.blk s H scope (compEnvC scope cl C X.env) fp) E0 ifs t
  e : ∀ (s : Shared) (H : Hp) (C : Addr) (cl : List (Str × Addr)) (fp : List Addr), PM (X.blk s H scope (compEnvC scope cl C X.env) fp) E0 elt me
theorem lc_fin {ρ1 ρ : RT} {H1 H : Hp} {D : Addr} {acc : List W} {accV : List V} {S : Store} {Q : VK} (hD : H1 D = none) (e : Ext ρ1 H1 ρ H) (rep : RepS X.K X.mg ρ H S) (hDt : D ∈ ρ.t) (hd : H D = some (.lst accV)) (ra : RWs X.K X.mg ρ H acc accV) (rep2 : RepS X.K X.mg ⟨ρ.r, ρ1.t⟩ H S) (nt : D ∉ ρ1.t)
    (o : Out X.K X.mg (RW X.K X.mg) E ρ1 H1 (.ok (.lst acc) S) Q) : Q (.ref D) H :=
  o ⟨ρ.r, ρ1.t⟩ H (.ref D) ⟨e.pre, fun _ h => h, fun _ h => .inl h, e.keep, e.new, e.still⟩ rep2 (.lst ⟨hd, (rep.tk D hDt).2, nt⟩ (ra.less e.sub))
theorem pm_lc (hc : X.calm = true) (hN : X.N.Nodup) (hi : PIM' X E tg iter mi) (ok : blkC X.N X.env.scope scope own = true) (hb : Blk X scope tg ifs elt (slots own) g t me) (hs : ∀ x, foldedSetIterable iter X.env x = pure x := by intro _; rfl) :
    PM X E (.ListComp elt [⟨tg, iter, ifs, 0⟩] scope pos) (mLc mi (slots own) g t me) :=
  pe_imp (pe_lc (g := tG X E0 (slots own) g) (tt := tT X E0 t) (te := tE X E0 me) hc hN hi (blkOk_by ok) hb.g hb.t hb.e hs) fun σ H Q h => lc_of (fun ρ1 ρ H1 H D acc accV S _ hD e rep hDt hd ra rep2 nt o => lc_fin hD e rep hDt hd ra rep2 nt o) h
/-- y = [..] -/
theorem psm_setLc (i : Nat) {y : Str} {py spos : Pos} (hc : X.calm = true) (hN : X.N.Nodup) (hi : PIM' X E tg iter mi) (ok : blkC X.N X.env.scope scope own = true) (hb : Blk X scope tg ifs elt (slots own) g t me) (hy : X.N[i]? = some y := by rfl) (hyl : X.env.scope.names.lookup y = some .local := by rfl)
    (hsw : swapsWith (.ListComp elt [⟨tg, iter, ifs, 0⟩] scope pos) (some (.Name y py)) spos.line X.env = pure true := by exact sw_true rfl rfl rfl (by decide +kernel)) (hs : ∀ x, foldedSetIterable iter X.env x = pure x := by intro _; rfl) :
    PSM X E (.Assign [.Name y py] (.ListComp elt [⟨tg, iter, ifs, 0⟩] scope pos) spos) (mAsg (mLc mi (slots own) g t me) (gNm i)) :=
  ps_imp (ps_setLc (g := tG X E0 (slots own) g) (tt := tT X E0 t) (te := tE X E0 me) hc hN hy hyl hsw hi (blkOk_by ok) hb.g hb.t hb.e hs) fun D σ H ⟨ρ, s, S, rep, env, o⟩ => lc_of (E := E) (fun ρ1 ρ H1 H D acc accV S _ hD e rep hDt hd ra rep2 nt o => lc_fin hD e rep hDt hd ra rep2 nt o)
    ⟨ρ, s, S, rep, env, OutS.bind o fun ρ1 H1 w x S1 e1 rep1 r1 o1 => OutS.nx (s := s.set i (some w)) o1 rep1 ((env.ext e1).set i r1)⟩
end
end RL
end

section
set_option maxRecDepth 100000
set_option maxHeartbeats 2000000
namespace RL
open PySem PySem.Spec L2
open PyProof.Rows hiding St

/-! ### defs -/
/-- what a def is worth: a function of the arguments and the store -/
abbrev Fn := List W → Store → Res W
def spM (K : PySem.W.Frag) (mg : Str → Option Value) (n : Nat) (g : Fn) : Sp := fun vs H Q E => ∃ ρ S ws, RepS K mg ρ H S ∧ RWs K mg ρ H ws vs ∧ ws.length = n ∧ Out K mg (RW K mg) E ρ H (g ws S) Q
def startW (n : Nat) (ws : List W) : Env' := ws.map some ++ List.replicate (n - ws.length) none
/-- a body run at the arguments; n: the slots -/
def runB (n : Nat) (m : SS) : Fn := fun ws S => (m (startW n ws) S).bind fun p S1 => match p with
  | (.nx, _) => .ok .non S1
  | (.rt w, _) => .ok w S1
  | _ => .bad
abbrev FnM (P : Program) (w : World) (K : PySem.W.Frag) (mg : Str → Option Value) (base : Heap) (k : Nat) (f : Addr) (fd : FuncData) (ps : List Str) (n : Nat) (g : Fn) : Prop := FnOk P w K mg base (L2.CX P w) k f fd ps (spM K mg n g)
section
variable {P : Program} {w : World} {K : PySem.W.Frag} {mg : Str → Option Value} {base : Heap}
theorem env_start {ρ : RT} {H : Hp} {ws : List W} {vs : List V} {N : List Str} (r : RWs K mg ρ H ws vs) : REnv K mg ρ H (startW N.length ws) (L2.start N vs) := by
  have hl := r.length
  refine ⟨by simp [startW, L2.start, hl], fun i u hi => ?_⟩
  unfold startW at hi
  by_cases h : i < ws.length
  · rw [List.getElem?_append_left (by simpa using h), List.getElem?_map] at hi
    cases e : ws[i]? with
    | none => rw [e] at hi; cases hi
    | some u' =>
      rw [e] at hi
      cases (Option.some.inj (Option.some.inj hi) : u' = u)
      obtain ⟨v, h1, h2⟩ := r.get e
      refine ⟨v, ?_, h2⟩
      unfold L2.start
      rw [List.getElem?_append_left (by simpa [← hl] using h), List.getElem?_map, h1]
      rfl
  · rw [List.getElem?_append_right (by simpa using h), List.getElem?_replicate] at hi
    split at hi <;> cases hi
/-- a def, by its body -/
theorem fn_m {x qual : Str} {st : Stmt} {f : Addr} {fd : FuncData} {N ps : List Str} {k : Nat} {m : SS} (F : Fun K x qual st f fd) (Sc : FnScope N ps (defScope st))
    (hb : ∀ (cdv : Value) (A : Around) (outer : List Env) (s : Shared) (H : Hp) (E : XK), Room k (A.deeper (envOfC qual (defScope st) s.heap.objs.size f cdv)) → Takes (cxOf (L2.CX P w) P w K mg base N qual (defScope st) f cdv A outer s H E) (fun c d _ H => E c d H) → PSsM (cxOf (L2.CX P w) P w K mg base N qual (defScope st) f cdv A outer s H E) E (defBody st) m) :
    FnM P w K mg base (k + 1) f fd ps ps.length (runB N.length m) := by
  refine F.okX Sc (fun vs H Q E h => ?_) (fun cdv A outer s H vs Q E hr h => ⟨_, hb cdv A outer s H E hr (takes_of rfl rfl rfl rfl), ?_⟩)
  · obtain ⟨ρ, S, ws, rep, rs, hn, _⟩ := h
    rw [← rs.length]; exact hn
  · obtain ⟨ρ, S, ws, rep, rs, hn, o⟩ := h
    refine ⟨ρ, startW N.length ws, S, rep, env_start rs, ?_⟩
    unfold runB at o
    show OutS K mg E ρ H (m (startW N.length ws) S) _
    cases e : m (startW N.length ws) S with
    | ok p S1 =>
      obtain ⟨fl, s1⟩ := p
      rw [e] at o
      cases fl with
      | nx => exact fun ρ' H' σ' x rep' env' => o ρ' H' .non x rep' .non
      | rt u => exact o
      | bk => exact o.elim
      | ct => exact o.elim
    | exc c ns ws' S1 => rw [e] at o; exact o
    | bad => rw [e] at o; exact o
theorem fn_bad {f : Addr} {fd : FuncData} {ps : List Str} {k n : Nat} : FnM P w K mg base k f fd ps n (fun _ _ => .bad) :=
  ⟨fun vs H Q E ⟨_, _, _, _, _, _, o⟩ => o.elim, fun _ _ _ _ _ _ _ _ _ _ _ _ _ ⟨_, _, _, _, _, _, o⟩ => o.elim⟩
/-- the same def, another function that says no more -/
theorem FnM.of {f : Addr} {fd : FuncData} {ps : List Str} {k n : Nat} {g g' : Fn} (F : FnM P w K mg base k f fd ps n g) (h : ∀ ws S, g' ws S = .bad ∨ g' ws S = g ws S) : FnM P w K mg base k f fd ps n g' :=
  F.imp fun vs H Q E ⟨ρ, S, ws, rep, rs, hn, o⟩ => ⟨ρ, S, ws, rep, rs, hn, by
    rcases h ws S with e | e
    · rw [e] at o; exact o.elim
    · rw [← e]; exact o⟩
end
section
variable {X : Cx} {E : XK} {pos : Pos} {a : Expr} {es : List Expr} {mr : SM (List W)} {k n : Nat} {f : Addr} {fd : FuncData} {ps : List Str} {g : Fn} {x : Str} {p : Pos}
theorem passM (tk : Takes X (fun c d _ H => E c d H)) : Passes (L2.CX X.prog X.w) X E := passes_call tk fun _ _ _ _ h => h
theorem call_sp {σ : L2.St} {H : Hp} {Q : VK} (h : tE X E (mAp g mr) σ H Q) (hn : ∀ s S ws S', mr s S = .ok ws S' → ws.length = n) : tCall (spM X.K X.mg n g) [] E (tA X E mr) σ H Q := by
  obtain ⟨ρ, s, S, rep, env, o⟩ := h
  refine ⟨ρ, s, S, rep, env, ?_⟩
  unfold mAp at o
  cases e : mr s S with
  | ok ws S1 =>
    rw [e] at o
    exact fun ρ1 H1 vs x rep1 r => ⟨ρ1, S1, ws, rep1, by rw [List.append_nil]; exact r, hn _ _ _ _ e, Out.ext x o⟩
  | exc c ns ws S1 => rw [e] at o; exact o
  | bad => rw [e] at o; exact o
/-- how many arguments -/
class Len (mr : SM (List W)) (n : outParam Nat) : Prop where
  len : ∀ s S ws S', mr s S = .ok ws S' → ws.length = n
theorem len_nil : Len mNil 0 := ⟨fun s S ws S' h => by cases h; rfl⟩
theorem len_cons {m : SM W} {mr : SM (List W)} {n : Nat} (h : Len mr n) : Len (mCons m mr) (n + 1) := ⟨fun s S ws S' e => by
  unfold mCons at e
  cases e1 : m s S with
  | ok w S1 =>
    rw [e1] at e
    have e : (mr s S1).bind (fun ws S2 => Res.ok (w :: ws) S2) = .ok ws S' := e
    cases e2 : mr s S1 with
    | ok us S2 =>
      rw [e2] at e
      cases e
      rw [List.length_cons, h.len _ _ _ _ e2]
    | exc c ns ws S2 => rw [e2] at e; cases e
    | bad => rw [e2] at e; cases e
  | exc c ns ws S1 => rw [e1] at e; cases e
  | bad => rw [e1] at e; cases e⟩
instance : Len mNil 0 := len_nil
instance {m : SM W} {mr : SM (List W)} {n : Nat} [h : Len mr n] : Len (mCons m mr) (n + 1) := len_cons h
/-- f(e, ..) -/
theorem pm_call [hl : Len mr n] (F : FnM X.prog X.w X.K X.mg X.base k f fd ps n g) (hr : Room k X.A) (hm : X.mg x = some (.ref f)) (hk : PySem.W.keepIn X.K (.ref f) = true) (hb : Binds X.K fd ps []) (tk : Takes X (fun c d _ H => E c d H)) (ha : PAM X E (a :: es) mr)
    (hg : Gl X x := by rfl) (hdb : (x == ("__debug__" : Str)) = false := by decide +kernel) (he : starEach (a :: es) X.env = (false, eval a X.env) :: starEach es X.env := by rfl) (hpl : (backTo pos (starEach es X.env)).any (·.1) = false := by rfl) : PM X E (.Call (.Name x p) (a :: es) [] pos) (mAp g mr) :=
  pe_imp (pe_call F hr hg hm hk hb .nil (passM tk) ha hdb he hpl) fun σ H Q h => call_sp h hl.len
theorem pm_call0 (F : FnM X.prog X.w X.K X.mg X.base k f fd ps 0 g) (hr : Room k X.A) (hm : X.mg x = some (.ref f)) (hk : PySem.W.keepIn X.K (.ref f) = true) (hb : Binds X.K fd ps []) (tk : Takes X (fun c d _ H => E c d H))
    (hg : Gl X x := by rfl) (hdb : (x == ("__debug__" : Str)) = false := by decide +kernel) : PM X E (.Call (.Name x p) [] [] pos) (mAp g mNil) :=
  pe_imp (pe_call0 F hr hg hm hk hb .nil (passM tk) hdb) fun σ H Q h => by
    obtain ⟨ρ, s, S, rep, env, o⟩ := h
    exact ⟨ρ, S, [], rep, .nil, rfl, o⟩

/-! ### methods of built-in types -/
variable {o : Expr} {mo : SM W} {T id : String} {name : Str} {apos : Pos}
def MethM (X : Cx) (E : XK) (T id : String) (g : W → List W → Store → Res W) : Prop := (∀ ρ S H w x ws, RepS X.K X.mg ρ H S → RW X.K X.mg ρ H w x → g w ws S ≠ .bad → tyV X.K T x H) ∧
  MtR X id (fun x vs H Q => ∃ ρ S w ws, RepS X.K X.mg ρ H S ∧ RW X.K X.mg ρ H w x ∧ RWs X.K X.mg ρ H ws vs ∧ Out X.K X.mg (RW X.K X.mg) E ρ H (g w ws S) Q)
end

/-! ### the law's end -/
theorem law_sp {K : PySem.W.Frag} {mg : Str → Option Value} {g : Fn} (hg : ∀ ns : List Int, ns.length ≤ 63 → ∃ S, g [.flst (ns.map W.int)] [] = .ok (.bl true) S) {H : Hp} {a : Addr} {ns : List Int} (hn : ns.length ≤ 63) (hO : Only H) (hS : SqL K H a (ns.map V.int)) :
    spM K mg 1 g [.ref a] H (fun v _ => v = .bl true) (fun _ _ _ => False) := by
  have intsW : ∀ ns : List Int, RWs K mg ⟨[], []⟩ H (ns.map W.int) (ns.map V.int) := fun ns => by
    induction ns with
    | nil => exact .nil
    | cons n r ih => exact .cons (.int n) ih
  refine ⟨⟨[], []⟩, [], [.flst (ns.map W.int)], ⟨rfl, List.nodup_nil, fun l o h => by simp at h, fun a h => by simp at h⟩, .cons (.flst ?_ (intsW ns)) .nil, rfl, ?_⟩
  · rcases hS with (h | ⟨o, h⟩) | h
    · rcases hO a with z | ⟨o, xs, z⟩
      · rw [z] at h; cases h
      · rw [z] at h; cases h
    · exact .inl ⟨o, h, by simp, by simp⟩
    · exact .inr h
  · obtain ⟨S, e⟩ := hg ns hn
    rw [e]
    intro ρ' H' v _ _ r
    cases r
    rfl
theorem cx_end {P : Program} {w : World} {H : Hp} {s : Shared} {e : Value} {s' : Shared} (h : L2.CX P w [] H s (fun _ _ _ => False) e s') : False := by
  obtain ⟨_, _, _, _, _, _, _, _, _, _, _, _, z⟩ := h
  exact z
end RL
namespace RL
open PySem PySem.Spec L2
open PyProof.Rows hiding St
/-! ### defs by their names -/
def FTx (K : PySem.W.Frag) (mg : Str → Option Value) (x : Str) (st : Stmt) (ps : List Str) : Prop := ∃ f fd, Fun K x x st f fd ∧ mg x = some (.ref f) ∧ Binds K fd ps []
/-- a def of the module that is worth g -/
def FnE (P : Program) (w : World) (K : PySem.W.Frag) (mg : Str → Option Value) (base : Heap) (k : Nat) (x : Str) (st : Stmt) (ps : List Str) (g : Fn) : Prop :=
  ∃ f fd, mg x = some (.ref f) ∧ Fun K x x st f fd ∧ Binds K fd ps [] ∧ FnM P w K mg base k f fd ps ps.length g
section
variable {P : Program} {w : World} {K : PySem.W.Frag} {mg : Str → Option Value} {base : Heap}
theorem fn_e {x : Str} {st : Stmt} {N ps : List Str} {k : Nat} {m : SS} (T : FTx K mg x st ps) (Sc : FnScope N ps (defScope st))
    (hb : ∀ (f : Addr) (cdv : Value) (A : Around) (outer : List Env) (s : Shared) (H : Hp) (E : XK), Room k (A.deeper (envOfC x (defScope st) s.heap.objs.size f cdv)) → Takes (cxOf (L2.CX P w) P w K mg base N x (defScope st) f cdv A outer s H E) (fun c d _ H => E c d H) → PSsM (cxOf (L2.CX P w) P w K mg base N x (defScope st) f cdv A outer s H E) E (defBody st) m) :
    FnE P w K mg base (k + 1) x st ps (runB N.length m) := by
  obtain ⟨f, fd, F, hm, hb'⟩ := T
  exact ⟨f, fd, hm, F, hb', fn_m F Sc (hb f)⟩
theorem fnE_bad {x : Str} {st : Stmt} {ps : List Str} {k : Nat} (T : FTx K mg x st ps) : FnE P w K mg base k x st ps (fun _ _ => .bad) := by
  obtain ⟨f, fd, F, hm, hb'⟩ := T
  exact ⟨f, fd, hm, F, hb', fn_bad⟩
theorem FnE.mono {x : Str} {st : Stmt} {ps : List Str} {j k : Nat} {g : Fn} (F : FnE P w K mg base j x st ps g) (h : j ≤ k) : FnE P w K mg base k x st ps g := by
  obtain ⟨f, fd, h1, h2, h3, h4⟩ := F
  exact ⟨f, fd, h1, h2, h3, h4.mono h⟩
theorem FnE.of {x : Str} {st : Stmt} {ps : List Str} {k : Nat} {g g' : Fn} (F : FnE P w K mg base k x st ps g) (h : ∀ ws S, g' ws S = .bad ∨ g' ws S = g ws S) : FnE P w K mg base k x st ps g' := by
  obtain ⟨f, fd, h1, h2, h3, h4⟩ := F
  exact ⟨f, fd, h1, h2, h3, FnM.of h4 h⟩
theorem ftx_mk {x : Str} {st : Stmt} {ps : List Str} {h : Heap} {f : Addr} {oc : Value} {od an : Option Addr} {sl : Array (Option Value)} {kV dc pm cd ct : Value} (X : K.In h) (G : h.Ns mainGlobals mg) (a : PySem.W.nsIn K mainGlobals x = some (some (.ref f)))
    (l : K.lookup f = some ⟨oc, od, .func (PySem.W.fnOf x x (defArgs st) (defBody st) (defScope st) .none kV dc pm an cd ct), sl⟩) (c : PySem.W.codeIn K cd x = true) (k : PySem.W.keepIn K (.ref f) = true)
    (hb : ∀ (kV doc pm : Value) (an : Option Addr) (cdv ct : Value) (us : List Value), us.length = ps.length → bindArgs (PySem.W.fnOf x x (defArgs st) (defBody st) (defScope st) .none kV doc pm an cdv ct) ⟨us, []⟩ = pure (ps.zip us)) : FTx K mg x st ps :=
  let F := fun_mk (st := st) l c k
  ⟨f, _, F, PySem.W.mg_of X G a, F.binds hb⟩
end
/-- the items at these places -/
def pIdx {α : Type} (idx : List Nat) (l : List α) : List α := idx.filterMap fun i => l[i]?
theorem pIdx_len {α : Type} {l : List α} : ∀ {idx : List Nat}, (∀ i ∈ idx, i < l.length) → (pIdx idx l).length = idx.length
  | [], _ => rfl
  | i :: r, h => by
    have ih := pIdx_len (l := l) (idx := r) fun j hj => h j (List.mem_cons_of_mem _ hj)
    have e : ∃ x, l[i]? = some x := ⟨_, List.getElem?_eq_getElem (h i List.mem_cons_self)⟩
    obtain ⟨x, e⟩ := e
    unfold pIdx at ih ⊢
    rw [List.filterMap_cons, e, List.length_cons, ih]
    rfl
theorem pIdx_vals {xs : List V} {us : List Value} (r : Vals xs us) : ∀ {idx : List Nat}, Vals (pIdx idx xs) (pIdx idx us)
  | [] => .nil
  | i :: t => by
    have ih := pIdx_vals r (idx := t)
    unfold pIdx at ih ⊢
    rw [List.filterMap_cons, List.filterMap_cons]
    cases e : xs[i]? with
    | none => rw [r.none_of e]; exact ih
    | some x =>
      obtain ⟨u, h1, h2⟩ := r.get e
      rw [h1]
      exact .cons h2 ih
theorem pIdx_rws {K : PySem.W.Frag} {mg : Str → Option Value} {ρ : RT} {H : Hp} {ws : List W} {xs : List V} (r : RWs K mg ρ H ws xs) : ∀ {idx : List Nat}, RWs K mg ρ H (pIdx idx ws) (pIdx idx xs)
  | [] => .nil
  | i :: t => by
    have ih := pIdx_rws r (idx := t)
    unfold pIdx at ih ⊢
    rw [List.filterMap_cons, List.filterMap_cons]
    cases e : ws[i]? with
    | none =>
      have : xs[i]? = none := List.getElem?_eq_none_iff.mpr (by rw [← r.length]; exact List.getElem?_eq_none_iff.mp e)
      rw [this]; exact ih
    | some x =>
      obtain ⟨u, h1, h2⟩ := r.get e
      rw [h1]
      exact .cons h2 ih
def PKM (X : Cx) (E : XK) (kws : List Keyword) (m : SM (List W)) : Prop := PK X kws (tA X E m)
def mCallK (idx : List Nat) (g : Fn) (mr mk : SM (List W)) : SM W := fun s S => (mr s S).bind fun us S1 => (mk s S1).bind fun ws S2 => g (pIdx idx (us ++ ws)) S2
section
variable {X : Cx} {E : XK} {pos : Pos} {a : Expr} {es : List Expr} {mr mk : SM (List W)} {k k' n : Nat} {g : Fn} {x : Str} {p : Pos} {st : Stmt} {ps : List Str} {kws : List Keyword}
theorem pm_callE [hl : Len mr n] (F : FnE X.prog X.w X.K X.mg X.base k x st ps g) (hr : Room k' X.A) (hk : k ≤ k') (tk : Takes X (fun c d _ H => E c d H)) (ha : PAM X E (a :: es) mr) (hn : n = ps.length := by rfl)
    (hg : Gl X x := by rfl) (hdb : (x == ("__debug__" : Str)) = false := by decide +kernel) (he : starEach (a :: es) X.env = (false, eval a X.env) :: starEach es X.env := by rfl) (hpl : (backTo pos (starEach es X.env)).any (·.1) = false := by rfl) : PM X E (.Call (.Name x p) (a :: es) [] pos) (mAp g mr) := by
  obtain ⟨f, fd, h1, h2, h3, h4⟩ := F
  subst hn
  exact pm_call h4 (hr.mono hk) h1 h2.kp h3 tk ha hg hdb he hpl
theorem pm_callE0 (F : FnE X.prog X.w X.K X.mg X.base k x st [] g) (hr : Room k' X.A) (hk : k ≤ k') (tk : Takes X (fun c d _ H => E c d H)) (hg : Gl X x := by rfl) (hdb : (x == ("__debug__" : Str)) = false := by decide +kernel) : PM X E (.Call (.Name x p) [] [] pos) (mAp g mNil) := by
  obtain ⟨f, fd, h1, h2, h3, h4⟩ := F
  exact pm_call0 h4 (hr.mono hk) h1 h2.kp h3 tk hg hdb
theorem pk_imp {t t' : TA} (h : PK X kws t) (f : ∀ σ H Q, t' σ H Q → t σ H Q) : PK X kws t' := ⟨fun pos pins s σ H Q I q => h.run pos pins s σ H Q I (f σ H Q q)⟩
theorem pkm_nil : PKM X E [] mNil := pk_imp pk_nil fun σ H Q ⟨ρ, s, S, rep, env, o⟩ => Out.here o rep .nil
theorem pkm_cons {nm : Option Str} {kpos : Pos} {ma : SM W} (ha : PM X E a ma) (hr : PKM X E kws mk) : PKM X E (⟨nm, a, kpos⟩ :: kws) (mCons ma mk) :=
  pk_imp (pk_cons ha hr) fun σ H Q h => tX.bind h fun ρ1 H1 w x s S1 rep env r o => ⟨ρ1, s, S1, rep, env, Out.bind o fun ρ2 H2 ws xs S2 e2 rep2 r2 o2 => Out.here o2 rep2 (.cons (r.ext e2) r2)⟩
theorem kw_run {f : Addr} {fd : FuncData} {idx : List Nat} {ks : List Str} (F : Fun X.K x x st f fd) (h4 : FnM X.prog X.w X.K X.mg X.base k f fd ps ps.length g) (hr : Room k X.A) (tk : Takes X (fun c d _ H => E c d H)) {nb : Nat} (hidx : idx.all (· < n + nb) = true) (hil : idx.length = ps.length) (hks : ks.length = nb)
    (hb : ∀ (kV doc pm : Value) (an : Option Addr) (cdv ct : Value) (us ws : List Value), us.length = n → ws.length = nb → bindArgs (PySem.W.fnOf x x (defArgs st) (defBody st) (defScope st) .none kV doc pm an cdv ct) ⟨us, ks.zip ws⟩ = pure (ps.zip (pIdx idx (us ++ ws))))
    {pins : List (Addr × Obj)} {σ : L2.St} {H : Hp} {s : Shared} {Q : VK} {us ws : List Value} {vs zs : List V} (I : Inv X pins σ H s) (r : Vals vs us) (rz : Vals zs ws) (l1 : vs.length = n) (l2 : zs.length = nb) (h : spM X.K X.mg ps.length g (pIdx idx (vs ++ zs)) H Q E) : wpAny (model X.prog X.w) X.A (call (.ref f) us (ks.zip ws)) (EP X pins σ Q) X.xe s := by
  obtain ⟨oc, od, kV, doc, pm, an, cdv, ct, osl, rfl, _, _⟩ := F.ex
  have r2 := r.append rz
  refine wpAny_call (codeAny_mono (h4.run X.A X.stack s H ⟨us, ks.zip ws⟩ (pIdx idx (us ++ ws)) (pIdx idx (vs ++ zs)) Q E hr I.env0 (.of_eq (hb kV doc pm an cdv ct us ws (r.length.symm.trans l1) (rz.length.symm.trans l2))) (pIdx_vals r2) h) fun r s' hq => ?_)
  cases r with
  | error e => exact passM tk pins σ H s e s' I hq
  | ok fl =>
    cases fl with
    | ret u => exact I.after hq
    | next => exact False.elim hq
    | brk => exact False.elim hq
    | cont => exact False.elim hq
/-- f(k = v, ..) -/
theorem pm_callK0 {nb : Nat} [hl2 : Len mk nb] (idx : List Nat) (ks : List Str) (F : FnE X.prog X.w X.K X.mg X.base k x st ps g) (hr : Room k' X.A) (hk : k ≤ k') (tk : Takes X (fun c d _ H => E c d H)) (hkw : PKM X E kws mk)
    (hb : ∀ (kV doc pm : Value) (an : Option Addr) (cdv ct : Value) (us ws : List Value), us.length = 0 → ws.length = nb → bindArgs (PySem.W.fnOf x x (defArgs st) (defBody st) (defScope st) .none kV doc pm an cdv ct) ⟨us, ks.zip ws⟩ = pure (ps.zip (pIdx idx (us ++ ws))))
    (hidx : idx.all (· < 0 + nb) = true := by decide) (hil : idx.length = ps.length := by rfl) (hkl : ks.length = nb := by rfl) (hks : (backToKw pos (keywordEach kws X.env)).filterMap (·.1) = ks := by rfl)
    (hall : (backToKw pos (keywordEach kws X.env)).all (·.1.isSome) = true := by rfl) (hg : Gl X x := by rfl) (hdb : (x == ("__debug__" : Str)) = false := by decide +kernel)
    (hpl : (backToKw pos (keywordEach kws X.env)).any (·.1.isNone) = false := by rfl) : PM X E (.Call (.Name x p) [] kws pos) (mCallK idx g mNil mk) := by
  obtain ⟨f, fd, h1, h2, h3, h4⟩ := F
  refine ⟨fun pins s σ H Q I h => ?_⟩
  obtain ⟨ρ, sW, S, rep, env, o⟩ := h
  refine wpAny_Call_Name_kw (ld_glob I hg h1 ?_ hdb)
  refine PySem.W.callWith_KW0 (h₀ := X.base) I.ok.mod.kin h2.kp hall ?_ hpl
  have hq : tA X E mk σ H (fun zs H2 => zs.length = nb ∧ spM X.K X.mg ps.length g (pIdx idx ([] ++ zs)) H2 Q E) := by
    refine ⟨ρ, sW, S, rep, env, ?_⟩
    cases e : mk sW S with
    | ok ws S1 =>
      have o : Out X.K X.mg (RW X.K X.mg) E ρ H ((mk sW S).bind fun ws S2 => g (pIdx idx ([] ++ ws)) S2) Q := o
      rw [e] at o
      exact fun ρ1 H1 zs x rep1 r => ⟨by rw [← r.length]; exact hl2.len _ _ _ _ e, ρ1, S1, pIdx idx ([] ++ ws), rep1, pIdx_rws (by simpa using r), by
        rw [pIdx_len fun i hi => ?_, hil]
        have := of_decide_eq_true (List.all_eq_true.mp hidx i hi)
        rw [List.nil_append, hl2.len _ _ _ _ e]
        omega, Out.ext x o⟩
    | exc c ns ws S1 =>
      have o : Out X.K X.mg (RW X.K X.mg) E ρ H ((mk sW S).bind fun ws S2 => g (pIdx idx ([] ++ ws)) S2) Q := o
      rw [e] at o; exact o
    | bad =>
      have o : Out X.K X.mg (RW X.K X.mg) E ρ H ((mk sW S).bind fun ws S2 => g (pIdx idx ([] ++ ws)) S2) Q := o
      rw [e] at o; exact o
  refine thn (hkw.run pos pins s σ H _ I hq) fun ws s2 ⟨zs, H2, I2, rz, l2, q2⟩ => ⟨I2.kIn, ?_⟩
  rw [hks]
  exact kw_run (n := 0) (us := []) (vs := []) h2 h4 (hr.mono hk) tk hidx hil hkl hb I2 .nil rz rfl l2 q2
end
theorem hu64 {k : Nat} {A : Around} (hr : Room k A) : A.units + 64 < cLine := hr.units
theorem hu65 {k : Nat} {A : Around} (hr : Room k A) : A.units + 65 < cLine := by have := hr.un; omega
def mChT (g g' : W → W → Store → Res W) (ma mb mc : SM W) : SM Bool := fun s S => asB (mChain g g' ma mb mc s S)
theorem takesE0 {X : Cx} : Takes X (fun c d _ H => E0 c d H) := takes0
/-- sep.join(list of texts) -/
def strsW : List W → Option (List Str)
  | [] => some []
  | .str x :: r => (strsW r).map (x :: ·)
  | _ => none
theorem strsW_of {K : PySem.W.Frag} {mg : Str → Option Value} {ρ : RT} {H : Hp} : ∀ {ws : List W} {vs : List V} {bs : List Str}, RWs K mg ρ H ws vs → strsW ws = some bs → vs = bs.map V.str
  | _, _, _, .nil, h => by cases (Option.some.inj h : [] = _); rfl
  | _, _, _, .cons (w := w) (ws := ws) r t, h => by
    cases w with
    | str b =>
      cases e : strsW ws with
      | none => simp [strsW, e] at h
      | some bs =>
        simp [strsW, e] at h
        subst h
        cases r
        rw [strsW_of t e]
        rfl
    | _ => cases h
/-- a text's method of one argument -/
def mM1 (g : Str → W → Store → Res W) (mo me : SM W) : SM W := fun s S => (mo s S).bind fun o S1 => match o with
  | .str a => (me s S1).bind fun w S2 => g a w S2
  | _ => .bad
def gJoin (a : Str) (w : W) (S : Store) : Res W := match (seqA S w).bind strsW with
  | some ys => if (ys.map (·.length)).sum + ys.length * a.length ≤ 16777216 then .ok (.str (Txt.join a ys)) S else .bad
  | none => .bad
theorem m1_of {X : Cx} {E : XK} {mo me : SM W} {g : Str → W → Store → Res W} {r : V → List V → Hp → VK → Prop} (hr : ∀ ρ H S a w x Q, RepS X.K X.mg ρ H S → RW X.K X.mg ρ H w x → Out X.K X.mg (RW X.K X.mg) E ρ H (g a w S) Q → r (.str a) [x] H Q) {σ : L2.St} {H : Hp} {Q : VK} (h : tE X E (mM1 g mo me) σ H Q) :
    tM1 r (tE X E mo) (tE X E me) σ H Q := tX.bind h fun ρ1 H1 w x s S1 rep env r o => by
  cases w with
  | str a =>
    cases r
    exact ⟨⟨a, rfl⟩, ρ1, s, S1, rep, env, Out.bind o fun ρ2 H2 w2 x2 S2 e2 rep2 r2 o2 => hr ρ2 H2 S2 a w2 x2 Q rep2 r2 o2⟩
  | _ => exact o.elim
theorem pm_join {X : Cx} {E : XK} {o e : Expr} {mo me : SM W} {apos pos : Pos} (ho : PM X E o mo) (he : PM X E e me) (hs : starEach [e] X.env = [(false, eval e X.env)] := by rfl) (hbase : attributeBase o "join" X.env (eval o X.env) = eval o X.env := by rfl) (hline : (apos.endLine == pos.line) = true := by rfl) :
    PM X E (.Call (.Attribute o "join" apos) [e] [] pos) (mM1 gJoin mo me) :=
  pe_imp (pe_join ho he hs hbase hline) fun σ H Q h => m1_of (fun ρ2 H2 S2 a w2 x2 Q rep2 r2 o2 => by
    unfold gJoin at o2
    cases e3 : seqA S2 w2 with
    | none => rw [e3] at o2; exact o2.elim
    | some ws =>
      rw [e3] at o2
      obtain ⟨p, vs, rfl, hl, hr, _⟩ := seqA_of rep2 r2 e3
      cases e4 : strsW ws with
      | none => simp only [Option.bind, e4] at o2; exact o2.elim
      | some ys =>
        simp only [Option.bind, e4] at o2
        have ev := strsW_of hr e4
        subst ev
        split at o2
        · rename_i hz; exact ⟨a, p, ys, rfl, rfl, hl, hz, Out.here o2 rep2 (.str _)⟩
        · exact o2.elim) h
/-- a module's constants -/
theorem kcon_str {K : PySem.W.Frag} {mg : Str → Option Value} {x y : Str} {h : Heap} {t : Tok} (X : K.In h) (G : h.Ns mainGlobals mg) (a : PySem.W.nsIn K mainGlobals x = some (some (.str y t))) : KCon K mg x (.str y) := ⟨_, .str y, PySem.W.mg_of X G a, ⟨t, rfl⟩, fun _ _ => .str y⟩
theorem kcon_int {K : PySem.W.Frag} {mg : Str → Option Value} {x : Str} {y : Int} {h : Heap} {t : Tok} (X : K.In h) (G : h.Ns mainGlobals mg) (a : PySem.W.nsIn K mainGlobals x = some (some (.int y t))) : KCon K mg x (.int y) := ⟨_, .int y, PySem.W.mg_of X G a, ⟨t, rfl⟩, fun _ _ => .int y⟩
/-- a tuple of texts -/
theorem kcon_tupS {K : PySem.W.Frag} {mg : Str → Option Value} {x : Str} {h : Heap} {b : Addr} {dd : Option Addr} {its : Array Value} {n : Nat} {sl : Array (Option Value)} {ys : List Str} (X : K.In h) (G : h.Ns mainGlobals mg) (a : PySem.W.nsIn K mainGlobals x = some (some (.ref b)))
    (l : K.lookup b = some ⟨.type "tuple", dd, .seq its n, sl⟩) (hz : its.size ≤ lim) (hs : its.toList.map absV = ys.map fun y => some (V.str y)) : KCon K mg x (.tup (ys.map W.str)) := by
  refine ⟨_, .ref b, PySem.W.mg_of X G a, rfl, fun ρ H => .tup (vs := ys.map V.str) (.inr ⟨_, its, n, l, rfl, rfl, lim_line hz, ?_⟩) ?_⟩
  · have : ∀ (us : List Value) (ys : List Str), us.map absV = (ys.map fun y => some (V.str y)) → Vals (ys.map V.str) us := by
      intro us
      induction us with
      | nil => intro ys h; cases ys with
        | nil => exact .nil
        | cons _ _ => cases h
      | cons u r ih =>
        intro ys h
        cases ys with
        | nil => cases h
        | cons y ys =>
          rw [List.map_cons, List.map_cons] at h
          have h1 := (List.cons.inj h).1
          refine .cons ?_ (ih ys (List.cons.inj h).2)
          cases u with
          | str z t =>
            cases (Option.some.inj h1 : V.str z = V.str y)
            exact ⟨t, rfl⟩
          | _ => cases h1
    exact this _ _ hs
  · clear hs
    induction ys with
    | nil => exact .nil
    | cons y r ih => exact .cons (.str y) ih
end RL
end

section
set_option maxRecDepth 100000
set_option maxHeartbeats 2000000
namespace RL
open PySem PySem.Spec L2
open PyProof.Rows hiding St
/-! ### the law's end -/
def spLaw (K : PySem.W.Frag) : Sp := fun vs H Q _ => ∃ (a : Addr) (ns : List Int), vs = [.ref a] ∧ SqL K H a (ns.map V.int) ∧ ns.length ≤ 63 ∧ Only H ∧ ∀ H', Q (.bl true) H'
theorem spLaw_of {K : PySem.W.Frag} {mg : Str → Option Value} {g : Fn} (hg : ∀ ns : List Int, ns.length ≤ 63 → ∃ S, g [.flst (ns.map W.int)] [] = .ok (.bl true) S) {vs : List V} {H : Hp} {Q : VK} {E : XK} (h : spLaw K vs H Q E) : spM K mg 1 g vs H Q E := by
  obtain ⟨a, ns, rfl, hS, hn, hO, q⟩ := h
  have intsW : ∀ ns : List Int, RWs K mg ⟨[], []⟩ H (ns.map W.int) (ns.map V.int) := fun ns => by
    induction ns with
    | nil => exact .nil
    | cons n r ih => exact .cons (.int n) ih
  refine ⟨⟨[], []⟩, [], [.flst (ns.map W.int)], ⟨rfl, List.nodup_nil, fun l o h => by simp at h, fun a h => by simp at h⟩, .cons (.flst ?_ (intsW ns)) .nil, rfl, ?_⟩
  · rcases hS with (h | ⟨o, h⟩) | h
    · rcases hO a with z | ⟨o, xs, z⟩
      · rw [z] at h; cases h
      · rw [z] at h; cases h
    · exact .inl ⟨o, h, by simp, by simp⟩
    · exact .inr h
  · obtain ⟨S, e⟩ := hg ns hn
    rw [e]
    intro ρ' H' v _ _ r
    cases r
    exact q _
theorem walk_law {l : PySem.W.OpenLaw} {k : Nat} {q : Program} {loose : List Str} {XP : (Str → Option Value) → Heap → Prop} {YP : World → Heap → Prop} {d : DefRec} {K : Params → PySem.W.Frag} {x : Str} {st : Stmt} {g : Fn}
    (hg : ∀ ns : List Int, ns.length ≤ 63 → ∃ S, g [.flst (ns.map W.int)] [] = .ok (.bl true) S)
    (hbind : ∀ (kV doc pm : Value) (an : Option Addr) (cdv ct u : Value), bindArgs (PySem.W.fnOf d.name d.name (defArgs st) (defBody st) (defScope st) .none kV doc pm an cdv ct) ⟨[u], []⟩ = pure [(x, u)])
    (hn : l.most = some 63) (hdf : d.params.defaults = []) (hr : Room k callerA) (hY : ∀ (w : World) (h : Heap), YP w h → (K w.params).In h)
    (hT : ∀ (w : World) (mg : Str → Option Value) (h : Heap), (K w.params).In h → h.Ns mainGlobals mg → FTx (K w.params) mg d.name st [x] ∧ ∀ base, FnE l.prog w (K w.params) mg base k d.name st [x] g) :
    PySem.W.WalkO q loose XP YP l.row.toRowW d [] (fun f vs => PySem.call f vs) := by
  refine L2.walk_of (l := l) (n := 63) (k := k) (x := x) (CX := fun w => L2.CX l.prog w) (sp := fun w => spLaw (K w.params)) hn (by decide) hdf hr hY ?_ (fun w H a ns h1 h2 h3 => ⟨a, ns, rfl, h3, h1, h2, fun _ => rfl⟩) fun w H s e s' z => cx_end z
  intro w mg fa h KX G hmg
  obtain ⟨⟨f, fd, F, hf, hb⟩, hE⟩ := hT w mg h KX G
  rw [hmg] at hf
  cases hf
  refine ⟨fd, fun s u => ?_, fun base KB GB => ?_⟩
  · obtain ⟨oc, od, kV, doc, pm, an, cdv, ct, osl, rfl, _, _⟩ := F.ex
    exact .of_eq (hbind kV doc pm an cdv ct u)
  · obtain ⟨f', fd', h1, h2, h3, h4⟩ := hE base
    rw [hmg] at h1
    cases h1
    obtain ⟨oc, od, kV, doc, pm, an, cdv, ct, osl, e1, l1, _⟩ := F.ex
    obtain ⟨oc', od', kV', doc', pm', an', cdv', ct', osl', e2, l2, _⟩ := h2.ex
    rw [l1] at l2
    injection l2 with l2
    injection l2 with _ _ l2 _
    injection l2 with l2
    subst l2
    exact h4.imp fun vs H Q E z => spLaw_of hg z
end RL
end

section
set_option maxRecDepth 100000
set_option maxHeartbeats 2000000
namespace RL
open PySem PySem.Spec L2
open PyProof.Rows hiding St
/-! ### plain reasoning about the denotations -/
/-- it ends well, with Q -/
def Ev {α : Type} (r : Res α) (Q : α → Store → Prop) : Prop := ∃ a S, r = .ok a S ∧ Q a S
section
variable {α β : Type} {a : α} {S : Store} {Q Q' : α → Store → Prop} {r : Res α} {k : α → Store → Res β} {R : β → Store → Prop}
@[simp] theorem ev_ok : Ev (.ok a S) Q ↔ Q a S := ⟨fun ⟨b, T, e, h⟩ => (by cases e; exact h), fun h => ⟨a, S, rfl, h⟩⟩
@[simp] theorem ev_bad : Ev (.bad : Res α) Q ↔ False := ⟨fun ⟨_, _, e, _⟩ => (nomatch e), False.elim⟩
@[simp] theorem ev_bind : Ev (r.bind k) R ↔ Ev r fun a S => Ev (k a S) R := by
  cases r with
  | ok a S => exact (ev_ok (Q := fun a S => Ev (k a S) R)).symm
  | exc c ns ws S => exact ⟨fun ⟨_, _, e, _⟩ => (nomatch e), fun ⟨_, _, e, _⟩ => (nomatch e)⟩
  | bad => exact ⟨fun ⟨_, _, e, _⟩ => (nomatch e), fun ⟨_, _, e, _⟩ => (nomatch e)⟩
@[simp] theorem ok_bind : (Res.ok a S).bind k = k a S := rfl
@[simp] theorem bad_bind : (Res.bad : Res α).bind k = .bad := rfl
theorem Ev.mono (h : Ev r Q) (hq : ∀ a S, Q a S → Q' a S) : Ev r Q' := by
  obtain ⟨a, S, e, h⟩ := h
  exact ⟨a, S, e, hq _ _ h⟩
theorem Ev.of (e : r = .ok a S) (h : Q a S) : Ev r Q := ⟨a, S, e, h⟩
theorem Ev.ok (h : Q a S) : Ev (.ok a S) Q := ⟨a, S, rfl, h⟩
theorem Ev.eq {r : Res α} {a : α} {S : Store} (h : Ev r fun b T => b = a ∧ T = S) : r = .ok a S := by
  obtain ⟨b, T, e, rfl, rfl⟩ := h
  exact e
theorem ev_eq_iff : (r = .ok a S) ↔ Ev r fun b T => b = a ∧ T = S := ⟨fun h => ⟨a, S, h, rfl, rfl⟩, Ev.eq⟩
theorem Ev.ex (h : Ev r Q) : ∃ a S, r = .ok a S ∧ Q a S := h
theorem Ev.law (h : Ev (r : Res α) fun b _ => b = a) : ∃ S, r = .ok a S := by
  obtain ⟨b, T, e, rfl⟩ := h
  exact ⟨T, e⟩
end
section
variable {s : Env'} {S : Store} {w : W} {i : Nat}
@[simp] theorem mC_eq : mC w s S = .ok w S := rfl
@[simp] theorem mNil_eq : mNil s S = .ok [] S := rfl
@[simp] theorem mYes_eq : mYes s S = .ok true S := rfl
@[simp] theorem mSkip_eq : mSkip s S = .ok (.nx, s) S := rfl
@[simp] theorem mNoPart_eq : mNoPart s S = .ok none S := rfl
@[simp] theorem mVar_0 : mVar 0 (some w :: s) S = .ok w S := rfl
@[simp] theorem mVar_s {o : Option W} : mVar (i + 1) (o :: s) S = mVar i s S := by simp [mVar]
@[simp] theorem gNm_eq : gNm i w s S = .ok (s.set i (some w)) S := rfl
@[simp] theorem gTp_eq {n : Nat} {gs : GMs} {ws : List W} : gTp n gs (.tup ws) s S = if ws.length = n then gs ws s S else .bad := rfl
@[simp] theorem gNil_eq : gNil [] s S = .ok s S := rfl
@[simp] theorem gCons_eq {g : GM} {gs : GMs} {ws : List W} : gCons g gs (w :: ws) s S = (g w s S).bind fun s1 S1 => gs ws s1 S1 := rfl
end
section
variable {s : Env'} {S : Store} {w w1 w2 : W} {ws us : List W} {i j : Nat} {g g' : W → W → Store → Res W} {ma mb mc : SM W} {na nb : SM Bool} {m ms : SS} {mr : SM (List W)} {f : List W → Store → Res W} {gm : GM}
@[simp] theorem mBin_eq : mBin g ma mb s S = (ma s S).bind fun x S1 => (mb s S1).bind fun y S2 => g x y S2 := rfl
@[simp] theorem mUn_eq {g : W → Store → Res W} : mUn g ma s S = (ma s S).bind g := rfl
@[simp] theorem mTru_eq : mTru ma s S = (ma s S).bind fun w S1 => match truW S1 w with
  | some b => .ok b S1
  | none => .bad := rfl
@[simp] theorem asB_ok {b : Bool} : asB (.ok (.bl b) S) = .ok b S := rfl
@[simp] theorem mBT_eq : mBT g ma mb s S = (ma s S).bind fun x S1 => (mb s S1).bind fun y S2 => asB (g x y S2) := by
  unfold mBT mBin asB
  cases ma s S with
  | ok a S1 => dsimp [Res.bind]; cases mb s S1 <;> rfl
  | _ => rfl
@[simp] theorem mAndT_eq : mAndT na nb s S = (na s S).bind fun c S1 => if c = true then nb s S1 else .ok false S1 := rfl
@[simp] theorem mOrT_eq : mOrT na nb s S = (na s S).bind fun c S1 => if c = true then .ok true S1 else nb s S1 := rfl
@[simp] theorem mNotT_eq : mNotT na s S = (na s S).bind fun c S1 => .ok (!c) S1 := rfl
def andV (ma : SM W) (s : Env') (w : W) (S : Store) : Res W := match w with
  | .bl true => ma s S
  | .bl false => .ok (.bl false) S
  | _ => .bad
def orV (ma : SM W) (s : Env') (w : W) (S : Store) : Res W := match w with
  | .bl true => .ok (.bl true) S
  | .bl false => ma s S
  | _ => .bad
@[simp] theorem mAndV_eq : mAndV ma mb s S = (ma s S).bind (andV mb s) := rfl
@[simp] theorem mOrV_eq : mOrV ma mb s S = (ma s S).bind (orV mb s) := rfl
@[simp] theorem andV_bl {b : Bool} : andV ma s (.bl b) S = if b = true then ma s S else .ok (.bl false) S := by cases b <;> rfl
@[simp] theorem orV_bl {b : Bool} : orV ma s (.bl b) S = if b = true then .ok (.bl true) S else ma s S := by cases b <;> rfl
@[simp] theorem mIfE_eq : mIfE na ma mb s S = (na s S).bind fun k S1 => if k = true then ma s S1 else mb s S1 := rfl
def chV (g' : W → W → Store → Res W) (mc : SM W) (s : Env') (y z : W) (S : Store) : Res W := match z with
  | .bl true => (mc s S).bind fun w S4 => g' y w S4
  | .bl false => .ok (.bl false) S
  | _ => .bad
@[simp] theorem mChain_eq : mChain g g' ma mb mc s S = (ma s S).bind fun x S1 => (mb s S1).bind fun y S2 => (g x y S2).bind (chV g' mc s y) := rfl
@[simp] theorem chV_bl {b : Bool} : chV g' mc s w (.bl b) S = if b = true then (mc s S).bind fun u S4 => g' w u S4 else .ok (.bl false) S := by cases b <;> rfl
@[simp] theorem mChT_eq : mChT g g' ma mb mc s S = asB ((ma s S).bind fun x S1 => (mb s S1).bind fun y S2 => (g x y S2).bind (chV g' mc s y)) := rfl
@[simp] theorem asB_bind {α : Type} {r : Res α} {k : α → Store → Res W} : asB (r.bind k) = r.bind fun a S => asB (k a S) := by cases r <;> rfl
@[simp] theorem asB_ite {c : Prop} [Decidable c] {a b : Res W} : asB (if c then a else b) = if c then asB a else asB b := by split <;> rfl
@[simp] theorem mPart_eq : mPart ma s S = (ma s S).bind fun w S1 => match w with
  | .int i => .ok (some i) S1
  | _ => .bad := rfl
@[simp] theorem mSl_eq {ml mh : SM (Option Int)} : mSl ma ml mh s S = (ma s S).bind fun w S1 => (ml s S1).bind fun lo S2 => (mh s S2).bind fun hi S3 => gSl w lo hi S3 := rfl
@[simp] theorem mCons_eq : mCons ma mr s S = (ma s S).bind fun w S1 => (mr s S1).bind fun ws S2 => .ok (w :: ws) S2 := rfl
@[simp] theorem mAp_eq : mAp f mr s S = (mr s S).bind f := rfl
@[simp] theorem g1_eq {g : W → Store → Res W} : g1 g [w] S = g w S := rfl
def seqK (ms : SS) (p : Fl × Env') (S : Store) : Res (Fl × Env') := match p with
  | (.nx, s1) => ms s1 S
  | p => .ok p S
@[simp] theorem mSeq_eq : mSeq m ms s S = (m s S).bind (seqK ms) := rfl
@[simp] theorem seqK_nx : seqK ms (.nx, s) S = ms s S := rfl
@[simp] theorem seqK_rt : seqK ms (.rt w, s) S = .ok (.rt w, s) S := rfl
@[simp] theorem seqK_bk : seqK ms (.bk, s) S = .ok (.bk, s) S := rfl
@[simp] theorem seqK_ct : seqK ms (.ct, s) S = .ok (.ct, s) S := rfl
@[simp] theorem mExpr_eq : mExpr ma s S = (ma s S).bind fun _ S1 => .ok (.nx, s) S1 := rfl
@[simp] theorem mRet_eq : mRet ma s S = (ma s S).bind fun w S1 => .ok (.rt w, s) S1 := rfl
@[simp] theorem mIf_eq : mIf na m ms s S = (na s S).bind fun b S1 => if b = true then m s S1 else ms s S1 := rfl
@[simp] theorem mAsg_eq : mAsg ma gm s S = (ma s S).bind fun w S1 => (gm w s S1).bind fun s' S2 => .ok (.nx, s') S2 := rfl
def parK (i j : Nat) (s : Env') (ws : List W) (S : Store) : Res (Fl × Env') := match ws with
  | [v, w] => .ok (.nx, (s.set i (some v)).set j (some w)) S
  | _ => .bad
@[simp] theorem mPar_eq : mPar i j mr s S = (mr s S).bind (parK i j s) := rfl
@[simp] theorem parK_eq : parK i j s [w1, w2] S = .ok (.nx, (s.set i (some w1)).set j (some w2)) S := rfl
@[simp] theorem mAug_eq : mAug i g ma s S = match s[i]? with
  | some (some x) => (ma s S).bind fun y S1 => (g x y S1).bind fun z S2 => .ok (.nx, s.set i (some z)) S2
  | _ => .bad := rfl
@[simp] theorem gSubI_eq {v : W} : gSubI ma mb v s S = (ma s S).bind fun o S1 => (mb s S1).bind fun i S2 => (gSetI o i v S2).bind fun _ S3 => .ok s S3 := rfl
@[simp] theorem mFor_eq {mi : SM ItW} : mFor mi gm m s S = (mi s S).bind fun it S1 => mForI it gm m s S1 := rfl
@[simp] theorem mForI_fix : mForI (.fix ws) gm m s S = mForL gm m ws s S := rfl
def lcK (S2 : Store) (acc : List W) : Res W := .ok (.lst acc) S2
@[simp] theorem mLc_eq {mi : SM ItW} {vs : List Nat} : mLc mi vs gm na ma s S = (mi s S).bind fun it S1 => (mLcI it gm na ma (wipeW s vs) S1).bind fun acc S2 => .ok (.lst acc) S2 := rfl
@[simp] theorem mLcI_fix : mLcI (.fix ws) gm na ma s S = mLcL gm na ma s ws [] S := rfl
@[simp] theorem mCallK_eq {idx : List Nat} {g : Fn} {mr mk : SM (List W)} : mCallK idx g mr mk s S = (mr s S).bind fun us S1 => (mk s S1).bind fun ws S2 => g (pIdx idx (us ++ ws)) S2 := rfl
/- operators at values -/
@[simp] theorem gAdd_int {i j : Int} : gAdd (.int i) (.int j) S = .ok (.int (i + j)) S := rfl
@[simp] theorem gAdd_str {x y : Str} : gAdd (.str x) (.str y) S = if x.length + y.length ≤ lim then .ok (.str (x ++ y)) S else .bad := rfl
@[simp] theorem gAdd_lst : gAdd (.lst ws) (.lst us) S = if ws.length + us.length ≤ lim then .ok (.lst (ws ++ us)) S else .bad := rfl
@[simp] theorem gI_eq {f : Int → Int → Int} {i j : Int} : gI f (.int i) (.int j) S = .ok (.int (f i j)) S := rfl
@[simp] theorem gIc_eq {c : Int → Int → Bool} {f : Int → Int → Int} {i j : Int} : gIc c f (.int i) (.int j) S = if c i j = true then .ok (.int (f i j)) S else .bad := rfl
@[simp] theorem gIb_eq {f : Int → Int → Bool} {i j : Int} : gIb f (.int i) (.int j) S = .ok (.bl (f i j)) S := rfl
@[simp] theorem gMul_int {i j : Int} : gMul (.int i) (.int j) S = if cMul i j = true then .ok (.int (i * j)) S else .bad := rfl
@[simp] theorem gMul_lst {k : Int} : gMul (.lst ws) (.int k) S = if -(2 ^ 63) ≤ k ∧ k < 2 ^ 63 ∧ ws.length * k.toNat ≤ lim then .ok (.lst (List.replicate k.toNat ws).flatten) S else .bad := rfl
@[simp] theorem gEq_str {n : Bool} {x y : Str} : gEq n (.str x) (.str y) S = .ok (.bl (xorB n (decide (x = y)))) S := rfl
@[simp] theorem gEq_int {n : Bool} {x y : Int} : gEq n (.int x) (.int y) S = .ok (.bl (xorB n (decide (x = y)))) S := rfl
@[simp] theorem gEq_bl {n : Bool} {x y : Bool} : gEq n (.bl x) (.bl y) S = .ok (.bl (xorB n (decide (x = y)))) S := rfl
@[simp] theorem xorB_t {b : Bool} : xorB true b = !b := rfl
@[simp] theorem xorB_f {b : Bool} : xorB false b = b := rfl
@[simp] theorem gIs_non {n : Bool} : gIs n w .non S = .ok (.bl (xorB n (isNonW w))) S := rfl
@[simp] theorem gIs_bl {n a b : Bool} : gIs n (.bl a) (.bl b) S = .ok (.bl (xorB n (decide (a = b)))) S := rfl
@[simp] theorem gTup_eq : gTup ws S = if ws.length ≤ lim then .ok (.tup ws) S else .bad := rfl
@[simp] theorem gLst_eq : gLst ws S = if ws.length ≤ lim then .ok (.lst ws) S else .bad := rfl
@[simp] theorem gLstR_eq : gLstR ws S = if ws.length ≤ lim then .ok (.ref S.length) (S ++ [.lst ws]) else .bad := rfl
@[simp] theorem gInt_int {i : Int} : gInt (.int i) S = .ok (.int i) S := rfl
@[simp] theorem gLen_str {x : Str} : gLen (.str x) S = if x.length ≤ lim then .ok (.int x.length) S else .bad := rfl
@[simp] theorem gLen_tup : gLen (.tup ws) S = .ok (.int ws.length) S := rfl
@[simp] theorem gLen_lst : gLen (.lst ws) S = .ok (.int ws.length) S := rfl
@[simp] theorem gLen_flst : gLen (.flst ws) S = .ok (.int ws.length) S := rfl
@[simp] theorem gListOf_lst : gListOf (.lst ws) S = .ok (.lst ws) S := rfl
@[simp] theorem gListOf_flst : gListOf (.flst ws) S = .ok (.lst ws) S := rfl
@[simp] theorem gListOf_tup : gListOf (.tup ws) S = .ok (.lst ws) S := rfl
@[simp] theorem gSl_str {x : Str} {lo hi : Option Int} : gSl (.str x) lo hi S = if x.length ≤ lim then .ok (.str (cutS x lo hi)) S else .bad := rfl
@[simp] theorem gSl_tup {lo hi : Option Int} : gSl (.tup ws) lo hi S = .ok (.tup (cutW ws lo hi)) S := rfl
@[simp] theorem gSl_lst {lo hi : Option Int} : gSl (.lst ws) lo hi S = .ok (.lst (cutW ws lo hi)) S := rfl
@[simp] theorem gSl_flst {lo hi : Option Int} : gSl (.flst ws) lo hi S = .ok (.lst (cutW ws lo hi)) S := rfl
@[simp] theorem litl_le {n : Nat} : (no_index (OfNat.ofNat n : Nat) ≤ lim) ↔ (OfNat.ofNat n : Nat) ≤ 16777216 := Iff.rfl
@[simp] theorem litl_lt {n : Nat} : (no_index (OfNat.ofNat n : Nat) < lim) ↔ (OfNat.ofNat n : Nat) < 16777216 := Iff.rfl
theorem gIx_lst {i : Int} (h : atI ws i = some w) : gIx (.lst ws) (.int i) S = .ok w S := by simp [gIx, seqL, h]
theorem gIx_flst {i : Int} (h : atI ws i = some w) : gIx (.flst ws) (.int i) S = .ok w S := by simp [gIx, seqL, h]
theorem gIx_tup {i : Int} (h : atI ws i = some w) : gIx (.tup ws) (.int i) S = .ok w S := by simp [gIx, h]
theorem gIx_ref {l : Nat} {i : Int} (hl : S[l]? = some (.lst ws)) (h : atI ws i = some w) : gIx (.ref l) (.int i) S = .ok w S := by simp [gIx, seqL, hl, h]
theorem gIx_str {x : Str} {i : Int} {c : Nat} (hx : x.length ≤ lim) (h : atI x.cps.toList i = some c) : gIx (.str x) (.int i) S = .ok (.str ⟨#[c]⟩) S := by simp [gIx, hx, h]
theorem atI_nat {α : Type} {xs : List α} {i : Int} (h0 : 0 ≤ i) : atI xs i = xs[i.toNat]? := by
  unfold atI ixN
  rw [if_pos h0]
  by_cases h : i < xs.length
  · rw [if_pos h]; rfl
  · rw [if_neg h, List.getElem?_eq_none (by omega)]; rfl
@[simp] theorem seqL_ref {l : Nat} : seqL S (.ref l) = lstAt S l := rfl
@[simp] theorem seqL_lst : seqL S (.lst ws) = some ws := rfl
@[simp] theorem seqL_flst : seqL S (.flst ws) = some ws := rfl
@[simp] theorem gIx_ref' {l : Nat} {i : Int} : gIx (.ref l) (.int i) S = match (lstAt S l).bind fun ws => atI ws i with
  | some w => .ok w S
  | none => .bad := rfl
@[simp] theorem gIx_lst' {i : Int} : gIx (.lst ws) (.int i) S = match atI ws i with
  | some w => .ok w S
  | none => .bad := rfl
@[simp] theorem gIx_flst' {i : Int} : gIx (.flst ws) (.int i) S = match atI ws i with
  | some w => .ok w S
  | none => .bad := rfl
@[simp] theorem gIx_tup' {i : Int} : gIx (.tup ws) (.int i) S = match atI ws i with
  | some w => .ok w S
  | none => .bad := rfl
theorem gSetI_eq {l : Nat} {i : Int} : gSetI (.ref l) (.int i) w S = match lstAt S l with
  | some ws => (match ixN ws.length i with
    | some j => .ok () (S.set l (.lst (ws.set j w)))
    | none => .bad)
  | none => .bad := by
  dsimp only [gSetI, lstAt]
  generalize S[l]? = z
  rcases z with _ | o
  · rfl
  · cases o <;> rfl
@[simp] theorem lstAt_set {l : Nat} (h : l < S.length) : lstAt (S.set l (.lst ws)) l = some ws := by
  unfold lstAt; rw [List.getElem?_set_self h]
theorem lstAt_get {l : Nat} (h : S[l]? = some (.lst ws)) : lstAt S l = some ws := by unfold lstAt; rw [h]
@[simp] theorem atI_lit {α : Type} {xs : List α} {n : Nat} : atI xs (no_index (OfNat.ofNat n) : Int) = xs[(OfNat.ofNat n : Nat)]? := by
  show atI xs (Int.ofNat n) = xs[n]?
  exact atI_nat (i := Int.ofNat n) (Int.natCast_nonneg n)
theorem gSetI_ref {l : Nat} {i : Int} (hl : S[l]? = some (.lst ws)) {j : Nat} (h : ixN ws.length i = some j) : gSetI (.ref l) (.int i) w S = .ok () (S.set l (.lst (ws.set j w))) := by simp [gSetI, hl, h]
end

/-! ### texts by their signs -/
def tx (l : List Nat) : Str := ⟨l.toArray⟩
section
variable {a b : List Nat} {S : Store} {i : Int} {s : Env'}
@[simp] theorem tx_len : (tx a).length = a.length := SX.S_len a
@[simp] theorem tx_cat : tx a ++ tx b = tx (a ++ b) := SX.S_cat a b
@[simp] theorem tx_inj : (tx a = tx b) ↔ a = b := ⟨SX.S_inj, fun h => by rw [h]⟩
@[simp] theorem tx_sign {c : Nat} : (⟨#[c]⟩ : Str) = tx [c] := rfl
@[simp] theorem tx_list : (tx a).cps.toList = a := by simp [tx]
@[simp] theorem tx_size : (tx a).cps.size = a.length := by simp [tx]
theorem tx_of (x : Str) : x = tx x.cps.toList := (SX.S_tl x).symm
theorem lit_eq {x : String} {a : List Nat} (h : (x.toList.map Char.toNat) = a) : Str.ofString x = tx a := by rw [Str.ofString_eq_toList, h]; rfl
@[simp] theorem cut_to (h : 0 ≤ i) : cutS (tx a) none (some i) = tx (a.take i.toNat) := by
  rw [C8.cutS_slice]; exact SX.slice_to h
@[simp] theorem cut_from (h : 0 ≤ i) : cutS (tx a) (some i) none = tx (a.drop i.toNat) := by
  rw [C8.cutS_slice]; exact SX.slice_from h
@[simp] theorem signs_tx : signs (tx a) = a.map fun c => .str (tx [c]) := by simp [signs]
@[simp] theorem gIx_str' {x : Str} : gIx (.str x) (.int i) S = if x.length ≤ lim then (match atI x.cps.toList i with
  | some c => .ok (.str (tx [c])) S
  | none => .bad) else .bad := rfl
theorem gIn_sign {n : Bool} {c : Nat} : gIn n (.str (tx [c])) (.str (tx a)) S = .ok (.bl (xorB n (decide (c ∈ a)))) S := by
  show Res.ok (W.bl (xorB n (!(Builtin.Str.occurrences (SX.S a) (SX.S [c]) 0 (SX.S a).length 1).isEmpty))) S = _
  rw [SX.in_one]
theorem gIn_strs {n : Bool} {x : Str} : ∀ {w : W} {ys : List Str}, (tupL w).or (seqL S w) = some (ys.map W.str) → gIn n (.str x) w S = .ok (.bl (xorB n (decide (x ∈ ys)))) S := by
  intro w ys h
  have h1 : (ys.map W.str).all flatW = true := by rw [List.all_map, List.all_eq_true]; intro _ _; rfl
  have h2 : inW (.str x) (ys.map W.str) = decide (x ∈ ys) := by
    unfold inW
    rw [List.any_map, Bool.eq_iff_iff, List.any_eq_true, decide_eq_true_eq]
    exact ⟨fun ⟨y, hy, e⟩ => by rw [← eq_of_beq (show (y == x) = true from e)]; exact hy, fun hx => ⟨x, hx, beq_self_eq_true x⟩⟩
  cases w with
  | str y => simp [tupL, seqL] at h
  | _ => simp only [gIn, h, h1, h2, flatW, and_self, if_true]
@[simp] theorem strsW_map {ys : List (List Nat)} : strsW (ys.map fun y => .str (tx y)) = some (ys.map tx) := by
  induction ys with
  | nil => rfl
  | cons y r ih => simp [strsW, ih]
@[simp] theorem gJoin_eq {x : Str} {w : W} : gJoin x w S = match (seqA S w).bind strsW with
  | some ys => if (ys.map (·.length)).sum + ys.length * x.length ≤ lim then .ok (.str (Txt.join x ys)) S else .bad
  | none => .bad := rfl
@[simp] theorem mM1_eq {g : Str → W → Store → Res W} {mo me : SM W} : mM1 g mo me s S = (mo s S).bind fun o S1 => match o with
  | .str a => (me s S1).bind fun w S2 => g a w S2
  | _ => .bad := rfl
theorem join_tx {ys : List (List Nat)} : Txt.join (tx a) (ys.map tx) = tx (TL.joinL a ys) := SX.join_S a ys
end
/-! ### comprehensions -/
section
variable {α : Type} {g : GM} {t : SM Bool} {e : SM W} {s0 : Env'} {S : Store}
@[simp] theorem nox_ok {a : α} : nox (.ok a S) = .ok a S := rfl
@[simp] theorem ev_nox {r : Res α} {Q : α → Store → Prop} : Ev (nox r) Q ↔ Ev r Q := by
  cases r with
  | exc c ns ws S => exact ⟨fun ⟨_, _, e, _⟩ => (nomatch e), fun ⟨_, _, e, _⟩ => (nomatch e)⟩
  | _ => exact Iff.rfl
@[simp] theorem mLcL_nil {acc : List W} : mLcL g t e s0 [] acc S = .ok acc S := rfl
@[simp] theorem mLcL_cons {w : W} {r acc : List W} : mLcL g t e s0 (w :: r) acc S = (mLcT g t e s0 w acc S).bind fun acc S => mLcL g t e s0 r acc S := rfl
@[simp] theorem mLcT_eq {w : W} {acc : List W} : mLcT g t e s0 w acc S = (nox (g w s0 S)).bind fun s1 S1 => (nox (t s1 S1)).bind fun b S2 => if b = true then (nox (e s1 S2)).bind fun y S3 => if acc.length < lim then .ok (acc ++ [y]) S3 else .bad else .ok acc S2 := rfl
/-- with an invariant -/
theorem lcL_ev (I : List W → List W → Store → Prop) (step : ∀ w r acc S, I (w :: r) acc S → Ev (mLcT g t e s0 w acc S) fun acc' S' => I r acc' S') : ∀ (ws acc : List W) (S : Store), I ws acc S → Ev (mLcL g t e s0 ws acc S) fun acc' S' => I [] acc' S'
  | [], acc, S, h => Ev.ok h
  | w :: r, acc, S, h => by
    rw [mLcL_cons, ev_bind]
    exact (step w r acc S h).mono fun a T q => lcL_ev I step r a T q
/-- where nothing is changed -/
theorem lcL_pure (f : W → W) : ∀ (ws acc : List W), acc.length + ws.length ≤ lim → (∀ w, w ∈ ws → ∃ s1, g w s0 S = .ok s1 S ∧ e s1 S = .ok (f w) S) → mLcL g mYes e s0 ws acc S = .ok (acc ++ ws.map f) S
  | [], acc, _, h => by simp
  | w :: r, acc, hl, h => by
    obtain ⟨s1, h1, h2⟩ := h w List.mem_cons_self
    rw [List.length_cons] at hl
    have hl' : acc.length < lim := by omega
    simp only [mLcL_cons, mLcT_eq, h1, nox_ok, ok_bind, mYes_eq, h2, if_true, hl']
    rw [lcL_pure f r (acc ++ [f w]) (by rw [List.length_append, List.length_singleton]; omega) fun w' m => h w' (List.mem_cons_of_mem _ m)]
    simp
@[simp] theorem mItems_eq {m : SM W} {s : Env'} : mItems m s S = (m s S).bind fun w S1 => match w with
  | .lst ws => .ok (.fix ws) S1
  | .flst ws => .ok (.fix ws) S1
  | .tup ws => .ok (.fix ws) S1
  | .str x => .ok (.fix (signs x)) S1
  | .ref l => match lstAt S1 l with
    | some _ => .ok (.gen (nxL l)) S1
    | none => .bad
  | _ => .bad := rfl
def rng1 (ws : List W) (S1 : Store) : Res ItW := match ws with
  | [.int j] => if okR j = true then .ok (.fix (rngW 0 j.toNat)) S1 else .bad
  | _ => .bad
def rng2 (ws : List W) (S1 : Store) : Res ItW := match ws with
  | [.int i, .int j] => if okR i = true ∧ okR j = true then .ok (.fix (rngW i (j - i).toNat)) S1 else .bad
  | _ => .bad
def zipK (ws : List W) (S1 : Store) : Res ItW := match ws with
  | [w, w'] => match itL w, itL w' with
    | some a, some b => .ok (.fix (zipW a b)) S1
    | _, _ => match tupL w, tupL w' with
      | some a, some b => .ok (.fix (zipW a b)) S1
      | _, _ => zipG w w' S1
  | _ => .bad
@[simp] theorem mRange1_eq {mr : SM (List W)} {s : Env'} : mRange1 mr s S = (mr s S).bind rng1 := rfl
@[simp] theorem mRange2_eq {mr : SM (List W)} {s : Env'} : mRange2 mr s S = (mr s S).bind rng2 := rfl
@[simp] theorem mZip_eq {mr : SM (List W)} {s : Env'} : mZip mr s S = (mr s S).bind zipK := rfl
@[simp] theorem rng1_eq {j : Int} : rng1 [.int j] S = if okR j = true then .ok (.fix (rngW 0 j.toNat)) S else .bad := rfl
@[simp] theorem rng2_eq {i j : Int} : rng2 [.int i, .int j] S = if okR i = true ∧ okR j = true then .ok (.fix (rngW i (j - i).toNat)) S else .bad := rfl
@[simp] theorem zipK_lst {a b : List W} : zipK [.lst a, .lst b] S = .ok (.fix (zipW a b)) S := rfl
@[simp] theorem zipK_tup {a b : List W} : zipK [.tup a, .tup b] S = .ok (.fix (zipW a b)) S := rfl
end
/-! ### calls -/
section
variable {S : Store} {n : Nat} {m : SS} {ws : List W}
def runK (p : Fl × Env') (S1 : Store) : Res W := match p with
  | (.nx, _) => .ok .non S1
  | (.rt w, _) => .ok w S1
  | _ => .bad
theorem runB_eq : runB n m ws S = (m (startW n ws) S).bind runK := rfl
@[simp] theorem runK_nx {s : Env'} : runK (.nx, s) S = .ok .non S := rfl
@[simp] theorem runK_rt {s : Env'} {w : W} : runK (.rt w, s) S = .ok w S := rfl
end
end RL
end

section
set_option maxRecDepth 100000
set_option maxHeartbeats 4000000
namespace LC
open PySem PySem.Spec L2 RL
open PyProof.Rows hiding St

def c_LETTERS : W := .str "abcdefghijklmnopqrstuvwxyz"
def c_MOST_LETTERS : W := .int 6
def c_RESERVED : W := .tup ((["all", "none", "closed", "open", "rim", "within", "is", "empty", "if", "else", "end", "repeat", "call", "program", "inputs", "outputs", "self"] : List Str).map W.str)
def sh_is_name : SS := (mSeq (mIf (mOrT (mNotT (mTru (mAp (gIsi ktB) (mCons (mVar 0) (mCons (mC (.ty "str")) mNil))))) (mOrT (mNotT (mChT gLe gLe (mC (.int 1)) (mAp (g1 gLen) (mCons (mVar 0) mNil)) (mC c_MOST_LETTERS))) (mBT (gIn false) (mVar 0) (mC c_RESERVED)))) (mRet (mC (.bl false))) mSkip)
  (mRet (mAp (g1 gAll) (mCons (mLc (mItems (mVar 0)) [1] (gNm 1) mYes (mBin (gIn false) (mVar 1) (mC c_LETTERS))) mNil))))
def G_is_name : Fn := runB 2 sh_is_name
def sh__law_cells : SS := (mSeq (mAsg (mC (.int 5741)) (gNm 1))
  (mSeq (mFor (mItems (mSl (mVar 0) mNoPart (mPart (mC (.int 63))))) (gNm 2) (mAsg (mBin gMod (mAp (g1 gInt) (mCons (mBin gAdd (mBin gAdd (mBin gMul (mVar 1) (mC (.int 43987))) (mBin gMod (mAp (g1 gInt) (mCons (mVar 2) mNil)) (mC (.int 2147483423)))) (mC (.int 61))) mNil)) (mC (.int 2147483629))) (gNm 1)))
  (mRet (mAp gLstR (mCons (mAp (g1 gListOf) (mCons (mSl (mVar 0) mNoPart (mPart (mC (.int 63)))) mNil)) (mCons (mC (.int 0)) (mCons (mC (.int 0)) (mCons (mVar 1) (mCons (mC (.int 0)) mNil)))))))))
def G__law_cells : Fn := runB 3 sh__law_cells
def sh__law_draw : SS := (mSeq (mAsg (mBin gAdd (mBin gIx (mVar 0) (mC (.int 4))) (mC (.int 1))) (gSubI (mVar 0) (mC (.int 4))))
  (mSeq (mIf (mAndT (mBT (gEq false) (mBin gIx (mVar 0) (mC (.int 2))) (mC (.int 0))) (mBT gLt (mBin gIx (mVar 0) (mC (.int 1))) (mAp (g1 gLen) (mCons (mBin gIx (mVar 0) (mC (.int 0))) mNil)))) (mSeq (mAsg (mBin gIx (mBin gIx (mVar 0) (mC (.int 0))) (mBin gIx (mVar 0) (mC (.int 1)))) (gNm 3))
  (mSeq (mAsg (mBin gAdd (mBin gIx (mVar 0) (mC (.int 1))) (mC (.int 1))) (gSubI (mVar 0) (mC (.int 1))))
  (mIf (mBT gGe (mVar 3) (mBin gPow (mC (.int 10)) (mC (.int 18)))) (mAsg (mVar 3) (gSubI (mVar 0) (mC (.int 2)))) (mAsg (mBin gMod (mAp (g1 gInt) (mCons (mBin gAdd (mBin gAdd (mBin gMul (mBin gIx (mVar 0) (mC (.int 3))) (mC (.int 38561))) (mBin gMul (mBin gMod (mAp (g1 gInt) (mCons (mVar 3) mNil)) (mC (.int 2147483423))) (mC (.int 27947)))) (mC (.int 83))) mNil)) (mC (.int 2147483629))) (gSubI (mVar 0) (mC (.int 3))))))) mSkip)
  (mSeq (mIf (mBT gGt (mBin gIx (mVar 0) (mC (.int 2))) (mC (.int 0))) (mSeq (mAsg (mBin gMod (mAp (g1 gInt) (mCons (mBin gIx (mVar 0) (mC (.int 2))) mNil)) (mVar 1)) (gNm 4))
  (mSeq (mAsg (mBin gDiv (mBin gIx (mVar 0) (mC (.int 2))) (mVar 1)) (gSubI (mVar 0) (mC (.int 2))))
  (mRet (mVar 4)))) mSkip)
  (mSeq (mAsg (mBin gIx (mVar 0) (mC (.int 3))) (gNm 2))
  (mSeq (mAsg (mBin gMod (mAp (g1 gInt) (mCons (mBin gAdd (mBin gAdd (mBin gAdd (mBin gMul (mBin gMul (mVar 2) (mVar 2)) (mC (.int 13))) (mBin gMul (mVar 2) (mC (.int 40961)))) (mBin gMul (mBin gIx (mVar 0) (mC (.int 4))) (mC (.int 1299689)))) (mC (.int 60649))) mNil)) (mC (.int 2147483629))) (gSubI (mVar 0) (mC (.int 3))))
  (mRet (mBin gMod (mAp (g1 gInt) (mCons (mBin gAdd (mBin gDiv (mBin gIx (mVar 0) (mC (.int 3))) (mC (.int 89))) (mBin gMul (mBin gMod (mAp (g1 gInt) (mCons (mBin gIx (mVar 0) (mC (.int 3))) mNil)) (mC (.int 7907))) (mC (.int 71)))) mNil)) (mVar 1))))))))
def G__law_draw : Fn := runB 5 sh__law_draw
def sh__law_one : SS := (mRet (mBin gIx (mVar 1) (mAp G__law_draw (mCons (mVar 0) (mCons (mAp (g1 gLen) (mCons (mVar 1) mNil)) mNil)))))
def G__law_one : Fn := runB 2 sh__law_one
def sh__law_same (G__law_same' : Fn) : SS := (mSeq (mIf (mTru (mAp (gIsi ktB) (mCons (mVar 1) (mCons (mAp gTup (mCons (mC (.ty "list")) (mCons (mC (.ty "tuple")) mNil))) mNil)))) (mSeq (mIf (mOrT (mBT (gEq true) (mAp (gIsi ktB) (mCons (mVar 0) (mCons (mC (.ty "list")) mNil))) (mAp (gIsi ktB) (mCons (mVar 1) (mCons (mC (.ty "list")) mNil)))) (mBT (gEq true) (mAp (gIsi ktB) (mCons (mVar 0) (mCons (mC (.ty "tuple")) mNil))) (mAp (gIsi ktB) (mCons (mVar 1) (mCons (mC (.ty "tuple")) mNil))))) (mRet (mC (.bl false))) mSkip)
  (mRet (mAndV (mBin (gEq false) (mAp (g1 gLen) (mCons (mVar 0) mNil)) (mAp (g1 gLen) (mCons (mVar 1) mNil))) (mAp (g1 gAll) (mCons (mLc (mZip (mCons (mVar 0) (mCons (mVar 1) mNil))) [2, 3] (gTp 2 (gCons (gNm 2) (gCons (gNm 3) gNil))) mYes (mAp G__law_same' (mCons (mVar 2) (mCons (mVar 3) mNil)))) mNil))))) mSkip)
  (mSeq (mIf (mOrT (mBT (gIs false) (mVar 1) (mC .non)) (mBT (gIs false) (mVar 0) (mC .non))) (mRet (mAndV (mBin (gIs false) (mVar 1) (mC .non)) (mBin (gIs false) (mVar 0) (mC .non)))) mSkip)
  (mSeq (mIf (mOrT (mBT (gEq true) (mAp (gIsi ktB) (mCons (mVar 1) (mCons (mC (.ty "bool")) mNil))) (mAp (gIsi ktB) (mCons (mVar 0) (mCons (mC (.ty "bool")) mNil)))) (mBT (gEq true) (mAp (gIsi ktB) (mCons (mVar 1) (mCons (mC (.ty "int")) mNil))) (mAp (gIsi ktB) (mCons (mVar 0) (mCons (mC (.ty "int")) mNil))))) (mRet (mC (.bl false))) mSkip)
  (mRet (mAndV (mBin (gEq false) (mAp (gIsi ktB) (mCons (mVar 1) (mCons (mC (.ty "str")) mNil))) (mAp (gIsi ktB) (mCons (mVar 0) (mCons (mC (.ty "str")) mNil)))) (mBin (gEq false) (mVar 0) (mVar 1)))))))
def G__law_same : Nat → Fn
  | 0 => fun _ _ => .bad
  | n + 1 => runB 4 (sh__law_same (G__law_same n))
def sh__law_words : SS := (mSeq (mAsg (mC (.str "bcdfghjklmnpqrstvwxyz")) (gNm 2))
  (mSeq (mAsg (mM1 gJoin (mC (.str "")) (mLc (mRange1 (mCons (mAp G__law_draw (mCons (mVar 0) (mCons (mC (.int 6)) mNil))) mNil)) [6] (gNm 6) mYes (mAp G__law_one (mCons (mVar 0) (mCons (mVar 2) mNil))))) (gNm 3))
  (mSeq (mAsg (mAp gTup (mCons (mAp G__law_draw (mCons (mVar 0) (mCons (mBin gAdd (mAp (g1 gLen) (mCons (mVar 3) mNil)) (mC (.int 1))) mNil))) (mCons (mAp G__law_draw (mCons (mVar 0) (mCons (mC (.int 21)) mNil))) mNil))) (gTp 2 (gCons (gNm 4) (gCons (gNm 5) gNil))))
  (mRet (mLc (mRange1 (mCons (mVar 1) mNil)) [6] (gNm 6) mYes (mBin gAdd (mBin gAdd (mSl (mVar 3) mNoPart (mPart (mVar 4))) (mBin gIx (mVar 2) (mBin gMod (mAp (g1 gInt) (mCons (mBin gAdd (mVar 5) (mBin gMul (mC (.int 5)) (mVar 6))) mNil)) (mC (.int 21))))) (mSl (mVar 3) (mPart (mVar 4)) mNoPart)))))))
def G__law_words : Fn := runB 7 sh__law_words
structure Bag where
  cells : List Int
  i : Int
  big : Int
  seed : Int
  cnt : Int
def Bag.ob (b : Bag) : Ob := .lst [.lst (b.cells.map .int), .int b.i, .int b.big, .int b.seed, .int b.cnt]
structure Bag.Ok (b : Bag) : Prop where
  i : 0 ≤ b.i
  big : 0 ≤ b.big
  s0 : 0 ≤ b.seed
  s1 : b.seed < 2147483629
theorem cMul_r {i j : Int} (h : -(2 ^ 64) < j) (h' : j < 2 ^ 64) : cMul i j = true := by
  simp only [cMul, Bool.or_eq_true, Bool.and_eq_true, decide_eq_true_eq]
  exact .inr ⟨h, h'⟩
theorem cMul_l {i j : Int} (h : -(2 ^ 64) < i) (h' : i < 2 ^ 64) : cMul i j = true := by
  simp only [cMul, Bool.or_eq_true, Bool.and_eq_true, decide_eq_true_eq]
  exact .inl ⟨h, h'⟩
section
variable {S : Store} {l : Nat} {b : Bag} {n : Int}
/-- the end of a draw -/
def DrawQ (S : Store) (l : Nat) (n : Int) (a : W) (T : Store) : Prop := ∃ k b', a = .int k ∧ T = S.set l (Bag.ob b') ∧ 0 ≤ k ∧ k < n ∧ Bag.Ok b'
theorem draw_ev (h : S[l]? = some b.ob) (hb : b.Ok) (h0 : 0 < n) (h1 : n < 1073741824) : Ev (G__law_draw [.ref l, .int n] S) (DrawQ S l n) := by
  obtain ⟨cells, i, big, seed, cnt⟩ := b
  obtain ⟨hi, hbig, hs0, hs1⟩ := hb
  dsimp only at hi hbig hs0 hs1
  have hl : l < S.length := by
    rcases Nat.lt_or_ge l S.length with z | z
    · exact z
    · rw [List.getElem?_eq_none z] at h; cases h
  have h := lstAt_get (ws := [.lst (cells.map .int), .int i, .int big, .int seed, .int cnt]) h
  have hm : ∀ x : Int, 0 ≤ x % 2147483629 ∧ x % 2147483629 < 2147483629 := fun x => ⟨Int.emod_nonneg _ (by decide), Int.emod_lt_of_pos _ (by decide)⟩
  have hn : ∀ x : Int, 0 ≤ x % n ∧ x % n < n := fun x => ⟨Int.emod_nonneg _ (by omega), Int.emod_lt_of_pos _ h0⟩
  have hsd : cMul seed seed = true := cMul_r (by omega) (by omega)
  have fin : ∀ x b', Bag.Ok b' → DrawQ S l n (.int (x % n)) (S.set l (Bag.ob b')) := fun x b' hb => ⟨_, _, rfl, rfl, (hn _).1, (hn _).2, hb⟩
  have e1 : ∀ x : Int, cMul x 38561 = true := fun x => cMul_r (by decide) (by decide)
  have e2 : ∀ x : Int, cMul x 27947 = true := fun x => cMul_r (by decide) (by decide)
  have e3 : ∀ x : Int, cMul x 13 = true := fun x => cMul_r (by decide) (by decide)
  have e4 : ∀ x : Int, cMul x 40961 = true := fun x => cMul_r (by decide) (by decide)
  have e5 : ∀ x : Int, cMul x 1299689 = true := fun x => cMul_r (by decide) (by decide)
  have e6 : ∀ x : Int, cMul x 71 = true := fun x => cMul_r (by decide) (by decide)
  by_cases c1 : big = 0 ∧ i < cells.length
  · obtain ⟨c1, c2⟩ := c1
    subst c1
    obtain ⟨cell, hc⟩ : ∃ c, cells[i.toNat]? = some c := ⟨_, List.getElem?_eq_getElem (by omega)⟩
    have hat : atI (cells.map W.int) i = some (.int cell) := by rw [atI_nat hi, List.getElem?_map, hc]; rfl
    by_cases c3 : 1000000000000000000 ≤ cell
    · have : 0 < cell := by omega
      simp [G__law_draw, runB, startW, sh__law_draw, h, gSetI_eq, hl, hat, ixN, c2, c3, this, h0, h1]
      exact fin cell ⟨cells, i + 1, cell / n, seed, cnt + 1⟩ ⟨by dsimp; omega, Int.ediv_nonneg (by omega) (by omega), hs0, hs1⟩
    · have hsd2 := fun x : Int => cMul_r (i := x % 2147483629) (j := x % 2147483629) (by have := hm x; omega) (by have := hm x; omega)
      simp [G__law_draw, runB, startW, sh__law_draw, h, gSetI_eq, hl, hat, ixN, c2, c3, h0, h1, e1, e2, e3, e4, e5, e6, hsd2]
      exact fin _ ⟨cells, i + 1, 0, _, cnt + 1⟩ ⟨by dsimp; omega, Int.le_refl 0, (hm _).1, (hm _).2⟩
  · by_cases c4 : 0 < big
    · have : ¬ big = 0 := by omega
      simp [G__law_draw, runB, startW, sh__law_draw, h, gSetI_eq, hl, ixN, this, c4, h0, h1]
      exact fin _ ⟨cells, i, big / n, seed, cnt + 1⟩ ⟨hi, Int.ediv_nonneg (by omega) (by omega), hs0, hs1⟩
    · have : big = 0 := by omega
      subst this
      have c2 : ¬ i < cells.length := fun z => c1 ⟨rfl, z⟩
      simp [G__law_draw, runB, startW, sh__law_draw, h, gSetI_eq, hl, ixN, c2, h0, h1, e1, e2, e3, e4, e5, e6, hsd]
      exact fin _ ⟨cells, i, 0, _, cnt + 1⟩ ⟨hi, Int.le_refl 0, (hm _).1, (hm _).2⟩
theorem draw_ok (h : S[l]? = some b.ob) (hb : b.Ok) (h0 : 0 < n) (h1 : n < 1073741824) : ∃ k b', 0 ≤ k ∧ k < n ∧ Bag.Ok b' ∧ G__law_draw [.ref l, .int n] S = .ok (.int k) (S.set l b'.ob) := by
  obtain ⟨a, T, e, k, b', rfl, rfl, h2, h3, h4⟩ := (draw_ev h hb h0 h1).ex
  exact ⟨k, b', h2, h3, h4, e⟩
end
section
variable {S : Store} {l : Nat} {b : Bag} {n : Int}
theorem ev_draw {Q : W → Store → Prop} (h : S[l]? = some b.ob) (hb : b.Ok) (h0 : 0 < n) (h1 : n < 1073741824) (k : ∀ (i : Nat) b', (i : Int) < n → Bag.Ok b' → Q (.int i) (S.set l b'.ob)) : Ev (G__law_draw [.ref l, .int n] S) Q := by
  obtain ⟨j, b', h2, h3, h4, e⟩ := draw_ok h hb h0 h1
  rw [e]
  obtain ⟨i, rfl⟩ := Int.eq_ofNat_of_zero_le h2
  exact Ev.ok (k i b' h3 h4)
theorem ev_one {Q : W → Store → Prop} {ws : List W} {w : W} (hw : w = .lst ws ∨ w = .tup ws) (h : S[l]? = some b.ob) (hb : b.Ok) (h0 : ws ≠ []) (h1 : ws.length < 1073741824) (k : ∀ u b', u ∈ ws → Bag.Ok b' → Q u (S.set l b'.ob)) : Ev (G__law_one [.ref l, w] S) Q := by
  have e0 : ∀ T, gLen w T = .ok (.int ws.length) T := by rcases hw with rfl | rfl <;> intro T <;> rfl
  have hp : 0 < ws.length := List.length_pos_iff.mpr h0
  have e1 : ∀ (i : Nat) T, (i : Int) < ws.length → ∃ u, u ∈ ws ∧ gIx w (.int i) T = .ok u T := by
    intro i T hi
    have hi : i < ws.length := by omega
    refine ⟨ws[i], List.getElem_mem _, ?_⟩
    have : atI ws (i : Int) = some ws[i] := by rw [atI_nat (Int.natCast_nonneg i), Int.toNat_natCast]; exact List.getElem?_eq_getElem hi
    rcases hw with rfl | rfl <;> simp [this]
  simp only [G__law_one, runB_eq, startW, sh__law_one, mRet_eq, mBin_eq, mAp_eq, mCons_eq, ev_bind, ev_ok, mVar_0, mVar_s, mNil_eq, g1_eq, List.map_cons, List.map_nil, List.append_nil, List.cons_append, e0, Nat.zero_add]
  refine ev_draw h hb (by omega) (by omega) fun i b' hi hb' => ?_
  obtain ⟨u, hu, e⟩ := e1 i (S.set l b'.ob) hi
  simp only [e, ev_ok, runK_rt]
  exact k u b' hu hb'
theorem ev_one_str {Q : W → Store → Prop} {a : List Nat} (h : S[l]? = some b.ob) (hb : b.Ok) (h0 : a ≠ []) (h1 : a.length ≤ lim) (k : ∀ c b', c ∈ a → Bag.Ok b' → Q (.str (tx [c])) (S.set l b'.ob)) : Ev (G__law_one [.ref l, .str (tx a)] S) Q := by
  have hp : 0 < a.length := List.length_pos_iff.mpr h0
  have hlim : lim = 16777216 := rfl
  simp only [G__law_one, runB_eq, startW, sh__law_one, mRet_eq, mBin_eq, mAp_eq, mCons_eq, ev_bind, ev_ok, mVar_0, mVar_s, mNil_eq, g1_eq, List.map_cons, List.map_nil, List.append_nil, List.cons_append, gLen_str, tx_len, h1, if_true, Nat.zero_add]
  refine ev_draw h hb (by omega) (by omega) fun i b' hi hb' => ?_
  have hi : i < a.length := by omega
  have : atI a (i : Int) = some a[i] := by rw [atI_nat (Int.natCast_nonneg i), Int.toNat_natCast]; exact List.getElem?_eq_getElem hi
  simp only [gIx_str', tx_len, h1, if_true, tx_list, this, ev_ok, runK_rt]
  exact k a[i] b' (List.getElem_mem _) hb'
end

section
variable {S : Store}
theorem cells_loop : ∀ (ns : List Int) (x : W) (seed : Int) (o : Option W), 0 ≤ seed → seed < 2147483629 → ∃ (seed' : Int) (o' : Option W), 0 ≤ seed' ∧ seed' < 2147483629 ∧
    mForL (gNm 2) (mAsg (mBin gMod (mAp (g1 gInt) (mCons (mBin gAdd (mBin gAdd (mBin gMul (mVar 1) (mC (.int 43987))) (mBin gMod (mAp (g1 gInt) (mCons (mVar 2) mNil)) (mC (.int 2147483423)))) (mC (.int 61))) mNil)) (mC (.int 2147483629))) (gNm 1)) (ns.map W.int) [some x, some (.int seed), o] S = .ok (.nx, [some x, some (.int seed'), o']) S
  | [], x, seed, o, h0, h1 => ⟨seed, o, h0, h1, rfl⟩
  | n :: r, x, seed, o, h0, h1 => by
    have e1 : cMul seed 43987 = true := cMul_r (by decide) (by decide)
    obtain ⟨seed', o', h2, h3, e⟩ := cells_loop r x ((seed * 43987 + n % 2147483423 + 61) % 2147483629) (some (.int n)) (Int.emod_nonneg _ (by decide)) (Int.emod_lt_of_pos _ (by decide))
    refine ⟨seed', o', h2, h3, ?_⟩
    rw [← e, List.map_cons]
    simp [mForL, e1]
theorem cells_ok {ns : List Int} (h : ns.length ≤ 63) : ∃ b, Bag.Ok b ∧ G__law_cells [.flst (ns.map .int)] S = .ok (.ref S.length) (S ++ [b.ob]) := by
  obtain ⟨seed', o', h2, h3, e⟩ := cells_loop (S := S) ns (.flst (ns.map .int)) 5741 none (by decide) (by decide)
  have hc : cutW (ns.map W.int) none (some 63) = ns.map W.int := by
    unfold cutW
    have : min 63 ns.length = ns.length := by omega
    simp only [HT.sIx, List.length_map, Nat.sub_zero, List.drop_zero, show ¬ ((63 : Int) < 0) by decide, if_false, show (63 : Int).toNat = 63 from rfl, this]
    exact List.take_of_length_le (by rw [List.length_map]; exact Nat.le_refl _)
  refine ⟨⟨ns, 0, 0, seed', 0⟩, ⟨Int.le_refl 0, Int.le_refl 0, h2, h3⟩, ?_⟩
  simp [G__law_cells, runB_eq, startW, sh__law_cells, hc, e, Bag.ob]
end
/-! ### equality of plain values -/
def plainW : Nat → W → Bool
  | 0, _ => false
  | n + 1, w => match w with
    | .non | .bl _ | .int _ | .str _ => true
    | .lst ws => decide (ws.length ≤ lim) && ws.all (plainW n)
    | .tup ws => decide (ws.length ≤ lim) && ws.all (plainW n)
    | _ => false
theorem zipW_self (ws : List W) : zipW ws ws = ws.map fun w => .tup [w, w] := by
  induction ws with
  | nil => rfl
  | cons w r ih =>
    have : zipW (w :: r) (w :: r) = .tup [w, w] :: zipW r r := rfl
    rw [this, ih]
    rfl
theorem blsW_map {α : Type} (f : α → Bool) (ws : List α) : blsW (ws.map fun w => W.bl (f w)) = some (ws.map f) := by
  induction ws with
  | nil => rfl
  | cons w r ih => simp [blsW, ih]
theorem blsW_map' (ws : List Bool) : blsW (ws.map W.bl) = some ws := by simpa using blsW_map id ws
theorem same_self : ∀ (n : Nat) (w : W), plainW n w = true → ∀ S, G__law_same n [w, w] S = .ok (.bl true) S
  | 0, w, h => by cases h
  | n + 1, w, h => fun S => by
    have inner : ∀ (ws : List W), ws.all (plainW n) = true → ws.length ≤ lim → ∀ (T : Store) (a b : Option W), mLcL (gTp 2 (gCons (gNm 2) (gCons (gNm 3) gNil))) mYes (mAp (G__law_same n) (mCons (mVar 2) (mCons (mVar 3) mNil))) [a, b, none, none] (zipW ws ws) [] T = .ok (ws.map fun _ => .bl true) T := by
      intro ws hw hl T a b
      rw [zipW_self, lcL_pure (fun _ => .bl true) _ [] (by simpa using hl) fun u hu => ?_]
      · simp
      · obtain ⟨v, hv, rfl⟩ := List.mem_map.mp hu
        refine ⟨[a, b, some v, some v], by simp, ?_⟩
        have := same_self n v (List.all_eq_true.mp hw v hv) T
        simp [this]
    have isi : ∀ (t : String) (w : W) (x : String) (b : Bool) T, tyOf T w = some (.ty t) → ktB (.ty t) (.ty x) = some b → gIsi ktB [w, .ty x] T = .ok (.bl b) T := by
      intro t w x b T h1 h2
      simp [gIsi, gIsi1, h1, isCls, h2]
    have isi2 : ∀ (t : String) (w : W) (b b' : Bool) T, tyOf T w = some (.ty t) → ktB (.ty t) (.ty "list") = some b → ktB (.ty t) (.ty "tuple") = some b' → gIsi ktB [w, .tup [.ty "list", .ty "tuple"]] T = .ok (.bl (b || b')) T := by
      intro t w b b' T h1 h2 h3
      cases b <;> cases b' <;> simp [gIsi, gIsi1, h1, isCls, tupL, ktAny, h2, h3]
    have seqs : ∀ (ws : List W), ws.all (plainW n) = true → ws.length ≤ lim → G__law_same (n + 1) [.lst ws, .lst ws] S = .ok (.bl true) S ∧ G__law_same (n + 1) [.tup ws, .tup ws] S = .ok (.bl true) S := by
      intro ws hw hl
      refine ⟨?_, ?_⟩
      · have i1 := isi "list" (.lst ws) "list" true S rfl rfl
        have i2 := isi "list" (.lst ws) "tuple" false S rfl rfl
        have i3 := isi2 "list" (.lst ws) true false S rfl rfl rfl
        simp [G__law_same, runB_eq, startW, sh__law_same, i1, i2, i3, inner ws hw hl, blsW_map, truW, wipeW, gAll]
      · have i1 := isi "tuple" (.tup ws) "list" false S rfl rfl
        have i2 := isi "tuple" (.tup ws) "tuple" true S rfl rfl
        have i3 := isi2 "tuple" (.tup ws) false true S rfl rfl rfl
        simp [G__law_same, runB_eq, startW, sh__law_same, i1, i2, i3, inner ws hw hl, blsW_map, truW, wipeW, gAll]
    cases w with
    | lst ws => rw [plainW, Bool.and_eq_true, decide_eq_true_eq] at h; exact (seqs ws h.2 h.1).1
    | tup ws => rw [plainW, Bool.and_eq_true, decide_eq_true_eq] at h; exact (seqs ws h.2 h.1).2
    | non =>
      have i3 := isi2 "NoneType" .non false false S rfl rfl rfl
      simp [G__law_same, runB_eq, startW, sh__law_same, i3, truW, isNonW]
    | bl b =>
      have i1 := isi "bool" (.bl b) "bool" true S rfl rfl
      have i2 := isi "bool" (.bl b) "int" true S rfl rfl
      have i4 := isi "bool" (.bl b) "str" false S rfl rfl
      have i3 := isi2 "bool" (.bl b) false false S rfl rfl rfl
      simp [G__law_same, runB_eq, startW, sh__law_same, i1, i2, i3, i4, truW, isNonW]
    | int b =>
      have i1 := isi "int" (.int b) "bool" false S rfl rfl
      have i2 := isi "int" (.int b) "int" true S rfl rfl
      have i4 := isi "int" (.int b) "str" false S rfl rfl
      have i3 := isi2 "int" (.int b) false false S rfl rfl rfl
      simp [G__law_same, runB_eq, startW, sh__law_same, i1, i2, i3, i4, truW, isNonW]
    | str b =>
      have i1 := isi "str" (.str b) "bool" false S rfl rfl
      have i2 := isi "str" (.str b) "int" false S rfl rfl
      have i4 := isi "str" (.str b) "str" true S rfl rfl
      have i3 := isi2 "str" (.str b) false false S rfl rfl rfl
      simp [G__law_same, runB_eq, startW, sh__law_same, i1, i2, i3, i4, truW, isNonW]
    | _ => cases h
/-! ### words -/
def consL : List Nat := [98, 99, 100, 102, 103, 104, 106, 107, 108, 109, 110, 112, 113, 114, 115, 116, 118, 119, 120, 121, 122]
theorem cons_eq : Str.ofString "bcdfghjklmnpqrstvwxyz" = tx consL := lit_eq (by decide +kernel)
def wordL (stem : List Nat) (at' first k : Nat) : List Nat := stem.take at' ++ (consL[(first + 5 * k) % 21]?.toList ++ stem.drop at')
/-- what a row of words is -/
structure Words (ws : List (List Nat)) (m : Nat) : Prop where
  ex : ∃ (stem : List Nat) (at' first : Nat), (∀ c, c ∈ stem → c ∈ consL) ∧ stem.length ≤ 5 ∧ at' ≤ stem.length ∧ first < 21 ∧ ws = (List.range m).map (wordL stem at' first)
section
variable {S : Store} {l : Nat} {b : Bag}
theorem joinL_nil : ∀ cs : List Nat, TL.joinL [] (cs.map fun c => [c]) = cs
  | [] => rfl
  | [c] => rfl
  | c :: d :: r => by
    have := joinL_nil (d :: r)
    rw [List.map_cons] at this ⊢
    simp [TL.joinL] at this ⊢
    exact this
theorem get_len {S : Store} {l : Nat} {o : Ob} (h : S[l]? = some o) : l < S.length := by
  rcases Nat.lt_or_ge l S.length with z | z
  · exact z
  · rw [List.getElem?_eq_none z] at h; cases h
theorem sum1 : ∀ cs : List Nat, ((((cs.map fun c => [c]).map tx).map (·.length))).sum = cs.length
  | [] => rfl
  | c :: r => by
    have := sum1 r
    rw [List.map_cons, List.map_cons, List.map_cons, List.sum_cons, this, tx_len]
    simp only [List.length_cons, List.length_nil]
    omega
theorem ev_words {Q : W → Store → Prop} {m : Nat} (hm : m ≤ 1000) (h : S[l]? = some b.ob) (hb : b.Ok) (k : ∀ ws b', Words ws m → Bag.Ok b' → Q (.lst (ws.map fun a => .str (tx a))) (S.set l b'.ob)) : Ev (G__law_words [.ref l, .int m] S) Q := by
  have hl := get_len h
  have get : ∀ b', (S.set l (Bag.ob b'))[l]? = some b'.ob := fun b' => List.getElem?_set_self hl
  simp only [G__law_words, runB_eq, sh__law_words, cons_eq, ev_bind, mSeq_eq, mAsg_eq, mC_eq, ev_ok, gNm_eq, startW, List.map_cons, List.map_nil, List.length_cons, List.length_nil, List.replicate, List.cons_append, List.nil_append, List.set_cons_succ, List.set_cons_zero, seqK_nx, mM1_eq, mLc_eq, mRange1_eq, mAp_eq, mCons_eq, mVar_0, mVar_s, mNil_eq]
  refine ev_draw h hb (by decide) (by decide) fun j b1 hj hb1 => ?_
  have hj6 : j ≤ 5 := by omega
  have ok1 : okR (j : Int) = true := by simp [okR]; omega
  simp only [rng1_eq, ok1, if_true, ev_ok, mLcI_fix, Int.toNat_natCast, wipeW, List.set_cons_succ, List.set_cons_zero]
  refine Ev.mono (lcL_ev (fun r acc T => ∃ cs b', (∀ c, c ∈ cs → c ∈ consL) ∧ cs.length + r.length ≤ 5 ∧ Bag.Ok b' ∧ T = S.set l b'.ob ∧ acc = cs.map fun c => .str (tx [c])) ?_ _ _ _ ⟨[], b1, nofun, by simp [rngW]; exact hj6, hb1, rfl, rfl⟩) ?_
  · rintro w r acc T ⟨cs, b', h1, h2, h3, rfl, rfl⟩
    rw [List.length_cons] at h2
    simp only [mLcT_eq, gNm_eq, nox_ok, ok_bind, mYes_eq, if_true, ev_bind, ev_nox, List.set_cons_succ, List.set_cons_zero, mAp_eq, mCons_eq, mVar_0, mVar_s, mNil_eq, ev_ok]
    refine ev_one_str (get b') h3 (by decide) (by decide) fun c b2 hc hb2 => ?_
    have : (cs.map fun c => W.str (tx [c])).length < lim := by rw [List.length_map]; show cs.length < 16777216; omega
    rw [if_pos this]
    refine Ev.ok ⟨cs ++ [c], b2, fun d hd => ?_, by simp; omega, hb2, by rw [List.set_set], by simp⟩
    rcases List.mem_append.mp hd with z | z
    · exact h1 d z
    · rw [List.mem_singleton.mp z]; exact hc
  rintro acc T ⟨stem, b2, hst, hlen, hb2, rfl, rfl⟩
  have hlen : stem.length ≤ 5 := by simpa using hlen
  have sw : strsW (stem.map fun c => .str (tx [c])) = some ((stem.map fun c => [c]).map tx) := by
    have := strsW_map (ys := stem.map fun c => [c])
    rw [List.map_map] at this
    exact this
  have sm : ((((stem.map fun c => [c]).map tx).map (·.length)).sum + ((stem.map fun c => [c]).map tx).length * ([] : List Nat).length) ≤ lim := by
    have : ((((stem.map fun c => [c]).map tx).map (·.length))).sum = stem.length := by
      exact sum1 stem
    rw [this]
    show stem.length + _ * 0 ≤ 16777216
    omega
  have ln : stem.length ≤ lim := by show stem.length ≤ 16777216; omega
  have ln2 : (2 : Nat) ≤ lim := by decide
  simp only [gJoin_eq, seqA, tupL, seqL_lst, Option.none_or, Option.bind_some, sw, show (Str.ofString "") = tx [] from lit_eq rfl, sm, if_true, ev_ok, join_tx, joinL_nil, List.set_cons_succ, List.set_cons_zero, seqK_nx, mSeq_eq, mAsg_eq, mAp_eq, mCons_eq, mVar_0, mVar_s, mNil_eq, mC_eq, mBin_eq, ev_bind, g1_eq, gLen_str, tx_len, ln, gAdd_int]
  refine ev_draw (n := (stem.length : Int) + 1) (get b2) hb2 (by omega) (by omega) fun at' b3 hat hb3 => ?_
  refine ev_draw (by rw [List.set_set]; exact get b3) hb3 (by decide) (by decide) fun first b4 hfi hb4 => ?_
  have hat : at' ≤ stem.length := by omega
  have hfi : first < 21 := by omega
  have ok2 : okR (m : Int) = true := by simp [okR]; omega
  simp only [gTup_eq, List.length_cons, List.length_nil, Nat.zero_add, Nat.reduceAdd, ln2, if_true, ev_ok, gTp_eq, gCons_eq, gNm_eq, gNil_eq, ok_bind, List.set_cons_succ, List.set_cons_zero, seqK_nx, mRet_eq, ev_bind, mLc_eq, mRange1_eq, mCons_eq, mVar_0, mVar_s, mNil_eq, rng1_eq, ok2, mLcI_fix, Int.toNat_natCast, wipeW, List.set_set]
  have body : ∀ (i : Nat), i < m → ∀ T a b, (mBin gAdd (mBin gAdd (mSl (mVar 3) mNoPart (mPart (mVar 4))) (mBin gIx (mVar 2) (mBin gMod (mAp (g1 gInt) (mCons (mBin gAdd (mVar 5) (mBin gMul (mC (.int 5)) (mVar 6))) mNil)) (mC (.int 21))))) (mSl (mVar 3) (mPart (mVar 4)) mNoPart)) [a, b, some (.str (tx consL)), some (.str (tx stem)), some (.int at'), some (.int first), some (.int i)] T = .ok (.str (tx (wordL stem at' first i))) T := by
    intro i hi T a b
    have hm : cMul 5 (i : Int) = true := cMul_l (by decide) (by decide)
    have hx : (((first : Int) + 5 * (i : Int)) % 21) = (((first + 5 * i) % 21 : Nat) : Int) := by omega
    have h21 : (first + 5 * i) % 21 < consL.length := Nat.mod_lt _ (by decide)
    have hc := List.getElem?_eq_getElem h21
    have hat2 : atI consL (((first : Int) + 5 * (i : Int)) % 21) = some consL[(first + 5 * i) % 21] := by
      rw [hx, RL.atI_nat (Int.natCast_nonneg _), Int.toNat_natCast]
      exact hc
    have hw : wordL stem at' first i = stem.take at' ++ (consL[(first + 5 * i) % 21] :: stem.drop at') := by
      unfold wordL
      rw [hc]
      rfl
    have hs1 : min at' stem.length + 1 ≤ lim := by show _ ≤ 16777216; omega
    have hs2 : min at' stem.length + 1 + (stem.length - at') ≤ lim := by show _ ≤ 16777216; omega
    have l21 : consL.length ≤ lim := by decide
    simp [hm, ln, hat2, hs1, hs2, l21, hw]
  have loop : ∀ T a b, mLcL (gNm 6) mYes (mBin gAdd (mBin gAdd (mSl (mVar 3) mNoPart (mPart (mVar 4))) (mBin gIx (mVar 2) (mBin gMod (mAp (g1 gInt) (mCons (mBin gAdd (mVar 5) (mBin gMul (mC (.int 5)) (mVar 6))) mNil)) (mC (.int 21))))) (mSl (mVar 3) (mPart (mVar 4)) mNoPart)) [a, b, some (.str (tx consL)), some (.str (tx stem)), some (.int at'), some (.int first), none] (rngW 0 m) [] T = .ok ((rngW 0 m).map fun w => match w with
      | .int i => .str (tx (wordL stem at' first i.toNat))
      | w => w) T := by
    intro T a b
    rw [lcL_pure (fun w => match w with
      | .int i => .str (tx (wordL stem at' first i.toNat))
      | w => w) _ [] (by simp [rngW]; show m ≤ 16777216; omega) fun u hu => ?_]
    · simp
    · obtain ⟨i, hi, rfl⟩ := List.mem_map.mp hu
      refine ⟨[a, b, some (.str (tx consL)), some (.str (tx stem)), some (.int at'), some (.int first), some (.int i)], by simp, ?_⟩
      rw [body i (List.mem_range.mp hi)]
      simp
  rw [loop]
  simp only [ev_ok, runK_rt]
  have := k ((List.range m).map (wordL stem at' first)) b4 ⟨stem, at', first, hst, hlen, hat, hfi, rfl⟩ hb4
  simpa [rngW, Function.comp_def] using this
end
/-! ### names -/
def lettersL : List Nat := [97, 98, 99, 100, 101, 102, 103, 104, 105, 106, 107, 108, 109, 110, 111, 112, 113, 114, 115, 116, 117, 118, 119, 120, 121, 122]
theorem letters_eq : c_LETTERS = .str (tx lettersL) := congrArg W.str (lit_eq (by decide +kernel))
def reservedL : List (List Nat) := (["all", "none", "closed", "open", "rim", "within", "is", "empty", "if", "else", "end", "repeat", "call", "program", "inputs", "outputs", "self"] : List String).map fun x => x.toList.map Char.toNat
theorem reserved_eq : c_RESERVED = .tup ((reservedL.map tx).map W.str) := by
  have : ∀ ys : List String, ys.map (fun x => Str.ofString x) = (ys.map fun x => x.toList.map Char.toNat).map tx := by
    intro ys
    rw [List.map_map]
    exact List.map_congr_left fun x _ => lit_eq rfl
  exact congrArg (fun z => W.tup (z.map W.str)) (this ["all", "none", "closed", "open", "rim", "within", "is", "empty", "if", "else", "end", "repeat", "call", "program", "inputs", "outputs", "self"])
/-- whether these signs are a name -/
def nameL (a : List Nat) : Bool := decide (1 ≤ a.length) && decide (a.length ≤ 6) && !decide (a ∈ reservedL) && a.all fun c => decide (c ∈ lettersL)
section
variable {S : Store} {a : List Nat}
theorem isi_str {x : Str} : gIsi ktB [.str x, .ty "str"] S = .ok (.bl true) S := by
  simp [gIsi, gIsi1, tyOf, isCls, show ktB (.ty "str") (.ty "str") = some true from rfl]
theorem is_name_tx (h : a.length ≤ lim) : G_is_name [.str (tx a)] S = .ok (.bl (nameL a)) S := by
  have hres : ∀ T, gIn false (.str (tx a)) c_RESERVED T = .ok (.bl (decide (a ∈ reservedL))) T := by
    intro T
    rw [reserved_eq, gIn_strs (ys := reservedL.map tx) rfl]
    have : decide (tx a ∈ reservedL.map tx) = decide (a ∈ reservedL) := by
      rw [decide_eq_decide, List.mem_map]
      exact ⟨fun ⟨b, hb, e⟩ => by rw [← tx_inj.mp e]; exact hb, fun hb => ⟨a, hb, rfl⟩⟩
    rw [this, xorB_f]
  have loop : ∀ o T, mLcL (gNm 1) mYes (mBin (gIn false) (mVar 1) (mC c_LETTERS)) [o, none] (a.map fun c => .str (tx [c])) [] T = .ok (a.map fun c => .bl (decide (c ∈ lettersL))) T := by
    intro o T
    rw [lcL_pure (fun w => match w with
      | .str x => .bl (x.cps.toList.all fun c => decide (c ∈ lettersL))
      | w => w) _ [] (by simpa using h) fun u hu => ?_]
    · rw [List.nil_append, List.map_map]
      refine congrArg (fun z => Res.ok z T) (List.map_congr_left fun c _ => ?_)
      show W.bl ((tx [c]).cps.toList.all _) = _
      rw [tx_list]
      simp
    · obtain ⟨c, hc, rfl⟩ := List.mem_map.mp hu
      refine ⟨_, rfl, ?_⟩
      show _ = Res.ok (W.bl ((tx [c]).cps.toList.all _)) T
      rw [tx_list]
      simp [letters_eq, gIn_sign]
  have bs : ∀ f : Nat → Bool, blsW (a.map fun c => .bl (f c)) = some (a.map f) := fun f => blsW_map f a
  by_cases h1 : 1 ≤ a.length
  · by_cases h6 : a.length ≤ 6
    · by_cases hr : a ∈ reservedL
      · simp [G_is_name, runB_eq, startW, sh_is_name, isi_str, truW, h, h1, h6, hres, hr, nameL, c_MOST_LETTERS]
        simp [show (1 : Int) ≤ (a.length : Int) from by omega, show (a.length : Int) ≤ 6 from by omega, hres, hr]
      · simp [G_is_name, runB_eq, startW, sh_is_name, isi_str, truW, h, h1, h6, hres, hr, nameL, c_MOST_LETTERS, show (1 : Int) ≤ (a.length : Int) from by omega, show (a.length : Int) ≤ 6 from by omega, loop, wipeW, gAll, bs]
    · simp [G_is_name, runB_eq, startW, sh_is_name, isi_str, truW, h, h1, h6, nameL, c_MOST_LETTERS, show (1 : Int) ≤ (a.length : Int) from by omega, show ¬ (a.length : Int) ≤ 6 from by omega]
  · simp [G_is_name, runB_eq, startW, sh_is_name, isi_str, truW, h, h1, nameL, c_MOST_LETTERS, show ¬ (1 : Int) ≤ (a.length : Int) from by omega]
end
theorem is_name_no {S : Store} {w : W} {t : String} (h1 : tyOf S w = some (.ty t)) (h2 : ktB (.ty t) (.ty "str") = some false) : G_is_name [w] S = .ok (.bl false) S := by
  have : gIsi ktB [w, .ty "str"] S = .ok (.bl false) S := by simp [gIsi, gIsi1, h1, isCls, h2]
  simp [G_is_name, runB_eq, startW, sh_is_name, this, truW]
theorem reserved_ws : ((["all", "none", "closed", "open", "rim", "within", "is", "empty", "if", "else", "end", "repeat", "call", "program", "inputs", "outputs", "self"] : List Str).map W.str) = (reservedL.map tx).map W.str := W.tup.inj reserved_eq
theorem lit_tx (x : String) : Str.ofString x = tx (x.toList.map Char.toNat) := lit_eq rfl
end LC
end

section
set_option maxRecDepth 100000
set_option maxHeartbeats 4000000
/-! sets made of lists -/
namespace RS
open PySem PySem.Spec PyProof.Rows L2
section
variable {P : Program} {w : World} {A : Around} {E : Value → Shared → Prop} {s : Shared}
abbrev emp (w : World) : Obj := { cls := .type "set", dict := none, data := .set #[] 0 (.fresh 0 0 (!w.params.followText "set-order")) }
abbrev lit (l : Addr) : Obj := { cls := .type "list_iterator", data := .fields #[.ref l, .int 0 0] }
/-- the new set at S, walked into from the list at l -/
abbrev hp2 (w : World) (h : Heap) (l : Addr) : Heap := (h.push (emp w)).push (lit l)
structure Kept (s t : Shared) : Prop where
  g : t.gens = s.gens
  d : t.drawn = s.drawn
  o : t.os = s.os
  h : ∀ b u, s.heap.get? b = some u → t.heap.get? b = some u
theorem set_list {l : Addr} {xs : Array Value} {Z : Heap → Prop} {Q : Value → Shared → Prop} (noh : A.handled = none) (isl : s.heap.IsList l xs)
    (loop : ∀ (B : Around) (t : Shared) (R : Result → Shared → Prop), B.handled = none → B.units ≤ A.units + 3 → t.heap = hp2 w s.heap l → t.gens = s.gens → t.drawn = s.drawn → t.os = s.os →
      (∀ t', Kept s t' → Z t'.heap → R (.ok (.ret .none)) t') → codeAny (model P w) B (.builtin "set.update.loop" ⟨[.ref s.heap.objs.size, .ref (s.heap.push (emp w)).objs.size], []⟩) R t)
    (fin : ∀ (g : Heap) (tk : Nat), Z g → (∀ b u, s.heap.get? b = some u → g.get? b = some u) → Q (.ref s.heap.objs.size) { s with heap := g, toks := tk }) :
    wpAny (model P w) A (call (.type "set") [.ref l]) Q E s := by
  obtain ⟨cc, tl, mro⟩ := F.called_set.mro
  have made := F.called_set.made
  have sub0 := F.called_set.sub
  refine wpAny_call (codeAny_of_tree ?_)
  change wpAny _ _ (callAny (.type "set") _) _ _ _
  refine wpAny_pure ⟨Code.quiet_builtin _ (by decide +kernel), ?_⟩
  refine codeAny_builtin F.entry_type_call ?_
  have wgt := weight_type_call_type "set" [.ref l] []
  rw [Around.under_plain wgt rfl]
  have q1 := F.called_set.notType
  have q2 := F.called_set.canCreate
  have q3 := F.typeCall_set_1 (.ref l)
  repeat (any_goals (first | assumption | wp_step))
  refine codeAny_mono (code_set_led1 (.ref l) (E := E) (Q₁ := fun v t => v = .ref s.heap.objs.size ∧ t = { s with heap := s.heap.push (emp w) }) ⟨rfl, rfl⟩) fun r t hr => ?_
  match r, hr with
  | .error e, hr => exact hr
  | .ok (.ret obj), hr =>
    obtain ⟨rfl, rfl⟩ := hr
    have atS : (s.heap.push (emp w)).get? s.heap.objs.size = some (emp w) := Heap.get?_push_size _ rfl
    have tyS : Shared.TypeIs { s with heap := s.heap.push (emp w) } (.ref s.heap.objs.size) "set" := ⟨_, atS, rfl⟩
    have i1 := F.called_set.init.lookup
    have i2 := F.called_set.init.bind (.ref s.heap.objs.size)
    repeat (any_goals (first | assumption | wp_step))
    refine codeAny_mono (codeAny_call_builtin (R := wants (fun r t => r = .none ∧ ∃ g tk, t = { s with heap := g, toks := tk } ∧ Z g ∧ ∀ b u, s.heap.get? b = some u → g.get? b = some u) E) F.called_set.init.plain F.entry_set_init (check_set_init_1 tyS ?_)) fun r t hr => ?_
    · obtain ⟨⟨ocls, odict, odata, oslots⟩, hol, hcl, nl, hdl⟩ := isl
      simp only at hcl hdl
      subst hcl; subst hdl
      have atl : (s.heap.push (emp w)).get? l = some { cls := .type "list", dict := odict, data := .seq xs nl, slots := oslots } := Heap.get?_push_of_some _ hol
      have n1 := F.sub_list_set
      have n2 := F.sub_list_frozenset
      have n3 : (Value.type "list" == Value.type "dict") = false := by decide
      have lst1 : (s.heap.push (emp w)).IsList l xs := ⟨_, atl, rfl, nl, rfl⟩
      unfold Builtin.«set.__init__» noKeywords Builtin.Frozenset.updateFrom
      generalize hPI : pyIter = PI
      wp_walk
      subst hPI
      refine wpAny_pyIter_list lst1 ?_
      refine wpAny_bind (wpAny_runValue ?_)
      refine loop _ _ _ (by simp [noh]) ?un rfl rfl rfl rfl fun t' k z => ?_
      case un => simp only [Around.in1_units]; omega
      obtain ⟨g, g2, d', tk', os'⟩ := t'
      obtain ⟨k1, k2, k3, k4⟩ := k
      dsimp only at k1 k2 k3
      subst k1; subst k2; subst k3
      change wpAny _ _ _ _ _ _
      refine wpAny_pure ?_
      change wpAny _ _ (ret Value.none) _ _ _
      exact wpAny_pure ⟨rfl, g, tk', rfl, z, k4⟩
    · match r, hr with
      | .error e, hr => exact hr
      | .ok (.ret v), hr =>
        obtain ⟨rfl, g, tk, rfl, z, k⟩ := hr
        repeat (any_goals (first | assumption | wp_step))
        exact fin _ _ z k
end
end RS
end

section
set_option maxRecDepth 100000
set_option maxHeartbeats 4000000
/-! orders, sorted lists -/
namespace OrdX
structure Tot {α : Type} (lt : α → α → Bool) : Prop where
  irr : ∀ a, lt a a = false
  tr : ∀ a b c, lt a b = true → lt b c = true → lt a c = true
  tri : ∀ a b, a ≠ b → lt a b = true ∨ lt b a = true
section
variable {α : Type} {lt : α → α → Bool}
theorem Tot.asym (o : Tot lt) {a b : α} (h : lt a b = true) : lt b a = false := by
  cases e : lt b a with
  | false => rfl
  | true => have := o.tr _ _ _ h e; rw [o.irr] at this; cases this
def insS (lt : α → α → Bool) (x : α) : List α → List α
  | [] => [x]
  | y :: r => if lt y x = true then y :: insS lt x r else x :: y :: r
def srt (lt : α → α → Bool) : List α → List α
  | [] => []
  | x :: r => insS lt x (srt lt r)
def insU (lt : α → α → Bool) (x : α) : List α → List α
  | [] => [x]
  | y :: r => if lt y x = true then y :: insU lt x r else if lt x y = true then x :: y :: r else y :: r
def usrt (lt : α → α → Bool) : List α → List α
  | [] => []
  | x :: r => insU lt x (usrt lt r)
theorem insS_perm (x : α) : ∀ l : List α, (insS lt x l).Perm (x :: l)
  | [] => List.Perm.refl _
  | y :: r => by
    unfold insS
    split
    · exact ((insS_perm x r).cons y).trans (List.Perm.swap x y r)
    · exact List.Perm.refl _
theorem srt_perm : ∀ l : List α, (srt lt l).Perm l
  | [] => List.Perm.refl _
  | x :: r => (insS_perm x _).trans ((srt_perm r).cons x)
theorem insS_pw (o : Tot lt) (x : α) : ∀ l : List α, l.Pairwise (fun a b => lt b a = false) → (insS lt x l).Pairwise fun a b => lt b a = false
  | [], _ => List.pairwise_singleton _ _
  | y :: r, h => by
    rw [List.pairwise_cons] at h
    unfold insS
    split
    · rename_i hy
      refine List.pairwise_cons.mpr ⟨fun z hz => ?_, insS_pw o x r h.2⟩
      rcases List.mem_cons.mp ((insS_perm x r).mem_iff.mp hz) with rfl | hz
      · exact o.asym hy
      · exact h.1 z hz
    · rename_i hy
      have hy : lt y x = false := by simpa using hy
      refine List.pairwise_cons.mpr ⟨fun z hz => ?_, List.pairwise_cons.mpr h⟩
      rcases List.mem_cons.mp hz with rfl | hz
      · exact hy
      · cases e : lt z x with
        | false => rfl
        | true =>
          have h1 := h.1 z hz
          by_cases hxy : y = x
          · subst hxy
            rw [h1] at e; cases e
          · rcases o.tri y x hxy with k | k
            · rw [hy] at k; cases k
            · have := o.tr _ _ _ e k
              rw [h1] at this; cases this
theorem srt_pw (o : Tot lt) : ∀ l : List α, (srt lt l).Pairwise fun a b => lt b a = false
  | [] => List.Pairwise.nil
  | x :: r => insS_pw o x _ (srt_pw o r)
/-- two sorted lists of the same things are the same -/
theorem sorted_eq (o : Tot lt) : ∀ {l m : List α}, l.Perm m → l.Pairwise (fun a b => lt b a = false) → m.Pairwise (fun a b => lt b a = false) → l = m
  | [], m, p, _, _ => by rw [List.nil_perm.mp p]
  | x :: l, [], p, _, _ => by have := p.length_eq; simp at this
  | x :: l, y :: m, p, h1, h2 => by
    rw [List.pairwise_cons] at h1 h2
    have e : x = y := by
      by_cases e : ∃ _ : x = y, True
      · exact e.1
      · have e : x ≠ y := fun z => e ⟨z, trivial⟩
        have a1 : x ∈ m := by
          rcases List.mem_cons.mp (p.mem_iff.mp List.mem_cons_self) with z | z
          · exact absurd z e
          · exact z
        have a2 : y ∈ l := by
          rcases List.mem_cons.mp (p.symm.mem_iff.mp List.mem_cons_self) with z | z
          · exact absurd z.symm e
          · exact z
        have b1 := h2.1 x a1
        have b2 := h1.1 y a2
        rcases o.tri x y e with z | z
        · rw [b1] at z; cases z
        · rw [b2] at z; cases z
    subst e
    rw [sorted_eq o (List.Perm.cons_inv p) h1.2 h2.2]
theorem srt_eq (o : Tot lt) {l m : List α} (p : m.Perm l) (h : m.Pairwise fun a b => lt b a = false) : m = srt lt l := sorted_eq o (p.trans (srt_perm l).symm) h (srt_pw o l)
theorem srt_of_perm (o : Tot lt) {l m : List α} (p : l.Perm m) : srt lt l = srt lt m := sorted_eq o ((srt_perm l).trans (p.trans (srt_perm m).symm)) (srt_pw o l) (srt_pw o m)
theorem mem_insU (o : Tot lt) (x z : α) : ∀ l : List α, z ∈ insU lt x l ↔ z = x ∨ z ∈ l
  | [] => by simp [insU]
  | y :: r => by
    unfold insU
    split
    · simp only [List.mem_cons, mem_insU o x z r]
      exact ⟨fun h => h.elim (fun h => .inr (.inl h)) fun h => h.elim .inl fun h => .inr (.inr h), fun h => h.elim (fun h => .inr (.inl h)) fun h => h.elim .inl fun h => .inr (.inr h)⟩
    · rename_i h1
      split
      · simp only [List.mem_cons]
      · rename_i h2
        have : x = y := by
          by_cases e : ∃ _ : x = y, True
          · exact e.1
          · rcases o.tri x y (fun z => e ⟨z, trivial⟩) with k | k
            · exact absurd k h2
            · exact absurd k h1
        subst this
        simp only [List.mem_cons]
        exact ⟨.inr, fun h => h.elim .inl id⟩
theorem mem_usrt (o : Tot lt) (z : α) : ∀ l : List α, z ∈ usrt lt l ↔ z ∈ l
  | [] => Iff.rfl
  | x :: r => by rw [usrt, mem_insU o, mem_usrt o z r, List.mem_cons]
theorem insU_pw (o : Tot lt) (x : α) : ∀ l : List α, l.Pairwise (fun a b => lt a b = true) → (insU lt x l).Pairwise fun a b => lt a b = true
  | [], _ => List.pairwise_singleton _ _
  | y :: r, h => by
    have h0 := h
    rw [List.pairwise_cons] at h
    unfold insU
    split
    · rename_i hy
      refine List.pairwise_cons.mpr ⟨fun z hz => ?_, insU_pw o x r h.2⟩
      rcases (mem_insU o x z r).mp hz with rfl | hz
      · exact hy
      · exact h.1 z hz
    · split
      · rename_i hy
        refine List.pairwise_cons.mpr ⟨fun z hz => ?_, h0⟩
        rcases List.mem_cons.mp hz with rfl | hz
        · exact hy
        · exact o.tr _ _ _ hy (h.1 z hz)
      · exact h0
theorem usrt_pw (o : Tot lt) : ∀ l : List α, (usrt lt l).Pairwise fun a b => lt a b = true
  | [] => List.Pairwise.nil
  | x :: r => insU_pw o x _ (usrt_pw o r)
theorem strict_eq (o : Tot lt) : ∀ {l m : List α}, (∀ x, x ∈ l ↔ x ∈ m) → l.Pairwise (fun a b => lt a b = true) → m.Pairwise (fun a b => lt a b = true) → l = m
  | [], [], _, _, _ => rfl
  | [], y :: m, p, _, _ => by have := (p y).mpr List.mem_cons_self; cases this
  | x :: l, [], p, _, _ => by have := (p x).mp List.mem_cons_self; cases this
  | x :: l, y :: m, p, h1, h2 => by
    rw [List.pairwise_cons] at h1 h2
    have e : x = y := by
      by_cases e : ∃ _ : x = y, True
      · exact e.1
      · have e : x ≠ y := fun z => e ⟨z, trivial⟩
        have a1 : x ∈ m := by
          rcases List.mem_cons.mp ((p x).mp List.mem_cons_self) with z | z
          · exact absurd z e
          · exact z
        have a2 : y ∈ l := by
          rcases List.mem_cons.mp ((p y).mpr List.mem_cons_self) with z | z
          · exact absurd z.symm e
          · exact z
        have b := o.asym (h2.1 x a1)
        rw [h1.1 y a2] at b; cases b
    subst e
    refine congrArg (x :: ·) (strict_eq o (fun z => ⟨fun hz => ?_, fun hz => ?_⟩) h1.2 h2.2)
    · rcases List.mem_cons.mp ((p z).mp (List.mem_cons_of_mem _ hz)) with rfl | k
      · have := h1.1 z hz; rw [o.irr] at this; cases this
      · exact k
    · rcases List.mem_cons.mp ((p z).mpr (List.mem_cons_of_mem _ hz)) with rfl | k
      · have := h2.1 z hz; rw [o.irr] at this; cases this
      · exact k
theorem usrt_eq (o : Tot lt) {l m : List α} (p : ∀ x, x ∈ m ↔ x ∈ l) (h : m.Pairwise fun a b => lt a b = true) : m = usrt lt l := strict_eq o (fun x => (p x).trans (mem_usrt o x l).symm) h (usrt_pw o l)
end
def ltI (a b : Int) : Bool := decide (a < b)
theorem totI : Tot ltI := ⟨fun a => by simp [ltI], fun a b c h1 h2 => by simp [ltI] at *; omega, fun a b h => by simp [ltI]; omega⟩
def lexL : List Int → List Int → Bool
  | [], [] => false
  | [], _ :: _ => true
  | _ :: _, [] => false
  | a :: r, b :: q => decide (a < b) || (decide (a = b) && lexL r q)
theorem totL : Tot lexL where
  irr := fun a => by induction a with
    | nil => rfl
    | cons x r ih => simp [lexL, ih]
  tr := fun a b c h1 h2 => by
    induction a generalizing b c with
    | nil => cases b with
      | nil => cases h1
      | cons y q => cases c with
        | nil => cases h2
        | cons z s => rfl
    | cons x r ih => cases b with
      | nil => cases h1
      | cons y q => cases c with
        | nil => cases h2
        | cons z s =>
          simp only [lexL, Bool.or_eq_true, decide_eq_true_eq, Bool.and_eq_true] at h1 h2 ⊢
          rcases h1 with h1 | ⟨h1, h1'⟩ <;> rcases h2 with h2 | ⟨h2, h2'⟩
          · left; omega
          · left; omega
          · left; omega
          · right; exact ⟨by omega, ih q s h1' h2'⟩
  tri := fun a b h => by
    induction a generalizing b with
    | nil => cases b with
      | nil => exact absurd rfl h
      | cons y q => exact .inl rfl
    | cons x r ih => cases b with
      | nil => exact .inr rfl
      | cons y q =>
        simp only [lexL, Bool.or_eq_true, decide_eq_true_eq, Bool.and_eq_true]
        rcases Int.lt_trichotomy x y with k | k | k
        · exact .inl (.inl k)
        · subst k
          have : r ≠ q := fun e => h (by rw [e])
          rcases ih q this with k | k
          · exact .inl (.inr ⟨rfl, k⟩)
          · exact .inr (.inr ⟨rfl, k⟩)
        · exact .inr (.inl k)
open L2 in
theorem lex_code {B : Int} : ∀ {a b : List Int}, a.length = b.length → TS.Bd B a → TS.Bd B b → lexL a b = true → TS.code B a < TS.code B b
  | [], [], _, _, _, h => by cases h
  | x :: r, y :: q, hl, ha, hb, h => by
    have h2 : r.length = q.length := by simpa using hl
    simp only [lexL, Bool.or_eq_true, decide_eq_true_eq, Bool.and_eq_true] at h
    rcases h with h | ⟨rfl, h⟩
    · exact TS.code_lt h2 ha.tail hb.tail h
    · exact (TS.code_same h2).mpr (lex_code (a := r) (b := q) h2 ha.tail hb.tail h)
  | [], _ :: _, hl, _, _, _ => by simp at hl
  | _ :: _, [], hl, _, _, _ => by simp at hl
end OrdX
end

section
set_option maxRecDepth 100000
set_option maxHeartbeats 4000000
namespace RL
open PySem PySem.Spec L2 OrdX
open PyProof.Rows hiding St
/-! ### set(xs) of a list of ints -/
def rSetL (K : PySem.W.Frag) (w : World) : List V → Hp → VK → Prop := fun xs H Q => ∃ (l : Addr) (ns : List Int), xs = [V.ref l] ∧ SqL K H l (ns.map V.int) ∧ ns.length < 64 ∧ ∀ p c, H p = none → c ≤ ns.length → Q (.ref p) (upd H p (SetO w p (fun j => decide (j ∈ ns)) c))
theorem ints_at : ∀ {us : List Value} {ns : List Int}, IntsAre us ns → ∀ (i : Nat) (v : Value), us[i]? = some v → ∃ k t, ns[i]? = some k ∧ v = .int k t
  | _, _, .cons n t _, 0, v, h => by cases Option.some.inj h; exact ⟨n, t, rfl, rfl⟩
  | _, _, .cons _ _ r, i + 1, v, h => ints_at r i v h
theorem cr_setL {X : Cx} (hc : X.calm = true) : CallR X (.type "set") (rSetL X.K X.w) := by
  intro pins s σ H vs us Q I rv ⟨l, ns, e, hl, hf, q⟩
  subst e
  rw [Vals.ref1 rv]
  obtain ⟨its, ri, pl, _⟩ := I.list hl
  have noh := I.ok.hd hc
  have isl : s.heap.IsList l its.toArray := pl.isList
  have hi : IntsAre its.toArray.toList ns := ints_of_vals ri
  have hsz : its.toArray.size = ns.length := by
    have z := IntsAre.length hi
    simpa using z
  have lt : l < s.heap.objs.size := by
    obtain ⟨o, ho, _⟩ := isl
    exact Heap.lt_size ho
  have ne1 : l ≠ (s.heap.push (RS.emp X.w)).objs.size := by rw [Heap.size_push]; exact Nat.ne_of_lt (Nat.lt_succ_of_lt lt)
  have ne2 : s.heap.objs.size ∉ [(s.heap.push (RS.emp X.w)).objs.size, l] := by
    rw [Heap.size_push]
    simp only [List.mem_cons, List.not_mem_nil, or_false, not_or]
    exact ⟨Nat.ne_of_lt (Nat.lt_succ_self _), Nat.ne_of_gt lt⟩
  refine RS.set_list (Z := fun g => ∃ c, c ≤ ns.length ∧ SetR X.w g s.heap.objs.size (fun j => decide (j ∈ ns)) c) noh isl (fun B t R hB _ ht hg hd ho hR => ?_) fun g tk ⟨c, hc1, hS⟩ k => ?_
  · have W := (Walks.list (prog := X.prog) (w := X.w) (A := B.in1) (by simpa using hB) _ l ne1 its.toArray).toS
    have lst2 : t.heap.IsList l its.toArray := by rw [ht]; exact (isl.push _).push _
    have itr : t.heap.IsListIter (s.heap.push (RS.emp X.w)).objs.size l 0 := by rw [ht]; exact ⟨_, Heap.get?_push_size _ rfl, rfl, rfl⟩
    have atS : t.heap.get? s.heap.objs.size = some (RS.emp X.w) := by rw [ht]; exact Heap.get?_push_of_some _ (Heap.get?_push_size _ rfl)
    refine set_update_ints W s.heap.objs.size ne2 ns hsz (by unfold scanBound; omega) (fun i v hv => ints_at hi i v (by rw [Array.getElem?_toList]; exact hv)) (its.toArray.size - 0) 0 t rfl (Nat.zero_le _) ⟨itr, lst2⟩ ⟨0, Nat.le_refl 0, setR_new_at atS⟩ fun t' c hm hc' hS' => hR t' ⟨?_, ?_, ?_, fun b u e => ?_⟩ ⟨c, by rw [← hsz]; exact hc', hS'⟩
    · rw [← hg]; exact hm.gens
    · rw [← hd]; exact hm.drawn
    · rw [← ho]; exact hm.os
    · have b1 : b < s.heap.objs.size := Heap.lt_size e
      refine hm.heap b u ?_ (by rw [ht]; exact Heap.get?_push_of_some _ (Heap.get?_push_of_some _ e))
      rw [Heap.size_push]
      simp only [List.mem_cons, List.not_mem_nil, or_false, not_or]
      exact ⟨Nat.ne_of_lt b1, Nat.ne_of_lt (Nat.lt_succ_of_lt b1)⟩
  · have fresh : H s.heap.objs.size = none := I.hok.fresh (Nat.le_refl _)
    exact ⟨.ref s.heap.objs.size, upd H s.heap.objs.size (SetO X.w s.heap.objs.size (fun j => decide (j ∈ ns)) c), I.laid (t' := tk) k (Nat.le_refl _) (setO_new hS), rfl, q _ c fresh hc1⟩
theorem cr_or {X : Cx} {f : Value} {r1 r2 : List V → Hp → VK → Prop} (h1 : CallR X f r1) (h2 : CallR X f r2) : CallR X f (fun xs H Q => r1 xs H Q ∨ r2 xs H Q) := fun pins s σ H xs us Q I r h => h.elim (h1 pins s σ H xs us Q I r) (h2 pins s σ H xs us Q I r)

/-! ### lists of ints, of tuples of ints, of texts -/
def intsW : List W → Option (List Int)
  | [] => some []
  | .int i :: r => (intsW r).map (i :: ·)
  | _ => none
def tupI1 : W → Option (List Int)
  | .tup ws => intsW ws
  | _ => none
def tupsW : List W → Option (List (List Int))
  | [] => some []
  | w :: r => match tupI1 w, tupsW r with
    | some k, some ks => some (k :: ks)
    | _, _ => none
def shapeT (ks : List (List Int)) : Bool := match ks with
  | [] => true
  | k :: r => decide (1 ≤ k.length) && (k :: r).all fun j => decide (j.length = k.length) && j.all fun i => decide (0 ≤ i)
section
variable {K : PySem.W.Frag} {mg : Str → Option Value} {ρ ρ' : RT} {H H' : Hp}
theorem intsW_of : ∀ {ws : List W} {ns : List Int}, intsW ws = some ns → ws = ns.map W.int
  | [], ns, h => by cases (Option.some.inj h : [] = ns); rfl
  | w :: r, ns, h => by
    cases w with
    | int i =>
      cases e : intsW r with
      | none => simp [intsW, e] at h
      | some ms =>
        simp [intsW, e] at h
        subst h
        rw [intsW_of e] <;> rfl
    | _ => cases h
theorem rws_ints : ∀ {ns : List Int} {vs : List V}, RWs K mg ρ H (ns.map W.int) vs → vs = ns.map V.int
  | [], _, .nil => rfl
  | n :: r, _, .cons (.int _) t => by rw [rws_ints t] <;> rfl
theorem ints_rws : ∀ ns : List Int, RWs K mg ρ H (ns.map W.int) (ns.map V.int)
  | [] => .nil
  | n :: r => .cons (.int n) (ints_rws r)
theorem strs_rws : ∀ ns : List Str, RWs K mg ρ H (ns.map W.str) (ns.map V.str)
  | [] => .nil
  | n :: r => .cons (.str n) (strs_rws r)
theorem tupsW_of : ∀ {ws : List W} {ks : List (List Int)} {vs : List V}, tupsW ws = some ks → RWs K mg ρ H ws vs → ∃ ps : List (Addr × List Int), vs = ps.map (fun p => V.ref p.1) ∧ ps.map (·.2) = ks ∧ ∀ p, p ∈ ps → SqT K H p.1 (p.2.map V.int) ∧ RW K mg ρ H (.tup (p.2.map W.int)) (.ref p.1)
  | [], ks, _, h, .nil => by cases (Option.some.inj h : [] = ks); exact ⟨[], rfl, rfl, nofun⟩
  | w :: r, ks, _, h, .cons rw1 t => by
    unfold tupsW at h
    cases e1 : tupI1 w with
    | none => rw [e1] at h; cases h
    | some k =>
      cases e2 : tupsW r with
      | none => rw [e1, e2] at h; cases h
      | some ks' =>
        rw [e1, e2] at h
        cases Option.some.inj h
        obtain ⟨ps, rfl, h2, h3⟩ := tupsW_of e2 t
        cases w with
        | tup us =>
          have eu := intsW_of (show intsW us = some k from e1)
          subst eu
          cases rw1 with
          | @tup a vs _ hf hr =>
            have ev := rws_ints hr
            subst ev
            refine ⟨(a, k) :: ps, rfl, by rw [← h2]; rfl, fun p m => ?_⟩
            rcases List.mem_cons.mp m with rfl | m
            · exact ⟨sqT_of hf, .tup hf hr⟩
            · exact h3 p m
        | _ => cases e1
theorem bnd_of (ks : List (List Int)) (h : ∀ k, k ∈ ks → ∀ i, i ∈ k → 0 ≤ i) : ∃ B : Int, ∀ k, k ∈ ks → TS.Bd B k := by
  have one : ∀ k : List Int, (∀ i, i ∈ k → 0 ≤ i) → ∃ B : Int, ∀ C, B ≤ C → TS.Bd C k := by
    intro k
    induction k with
    | nil => exact fun _ => ⟨0, fun C _ m hm => nomatch hm⟩
    | cons i r ih =>
      intro h
      obtain ⟨B, hB⟩ := ih fun j hj => h j (List.mem_cons_of_mem _ hj)
      refine ⟨max B (i + 1), fun C hC m hm => ?_⟩
      rcases List.mem_cons.mp hm with rfl | hm
      · exact ⟨h _ List.mem_cons_self, by omega⟩
      · exact hB C (by omega) m hm
  have all : ∃ B : Int, ∀ C, B ≤ C → ∀ k, k ∈ ks → TS.Bd C k := by
    induction ks with
    | nil => exact ⟨0, fun C _ m hm => nomatch hm⟩
    | cons k r ih =>
      obtain ⟨B, hB⟩ := ih fun j hj => h j (List.mem_cons_of_mem _ hj)
      obtain ⟨B', hB'⟩ := one k (h k List.mem_cons_self)
      refine ⟨max B B', fun C hC m hm => ?_⟩
      rcases List.mem_cons.mp hm with rfl | hm
      · exact hB' C (by omega)
      · exact hB C (by omega) m hm
  obtain ⟨B, hB⟩ := all
  exact ⟨B, fun k hk => hB B (Int.le_refl _) k hk⟩
theorem shape_of {ks : List (List Int)} (h : shapeT ks = true) : ∃ (d : Nat) (B : Int), 1 ≤ d ∧ ∀ k, k ∈ ks → k.length = d ∧ TS.Bd B k := by
  cases ks with
  | nil => exact ⟨1, 0, Nat.le_refl _, nofun⟩
  | cons k r =>
    simp only [shapeT, Bool.and_eq_true, decide_eq_true_eq, List.all_eq_true] at h
    obtain ⟨B, hB⟩ := bnd_of (k :: r) fun j hj i hi => (h.2 j hj).2 i hi
    exact ⟨k.length, B, h.1, fun j hj => ⟨(h.2 j hj).1, hB j hj⟩⟩
theorem pw_codes {d : Nat} {B : Int} {ks : List (List Int)} (hk : ∀ k, k ∈ ks → k.length = d ∧ TS.Bd B k) (h : ks.Pairwise fun a b => TS.code B a ≤ TS.code B b) : ks.Pairwise fun a b => lexL b a = false := by
  refine List.Pairwise.imp_of_mem (fun {a b} ha hb hab => ?_) h
  cases e : lexL b a with
  | false => rfl
  | true => have := lex_code ((hk b hb).1.trans (hk a ha).1.symm) (hk b hb).2 (hk a ha).2 e; omega
theorem pairs_rws : ∀ {ps : List (Addr × List Int)}, (∀ p, p ∈ ps → RW K mg ρ H (.tup (p.2.map W.int)) (.ref p.1)) → RWs K mg ρ H ((ps.map (·.2)).map fun k => .tup (k.map W.int)) (ps.map fun p => V.ref p.1)
  | [], _ => .nil
  | p :: r, h => .cons (h p List.mem_cons_self) (pairs_rws fun q m => h q (List.mem_cons_of_mem _ m))
end
/-- sorted(set(xs)) -/
def gSrtSet (w : W) (S : Store) : Res W := match seqL S w with
  | some ws => if ws.length < 64 then (match intsW ws with
    | some ns => .ok (.lst ((usrt ltI ns).map W.int)) S
    | none => match tupsW ws with
      | some ks => if shapeT ks = true then .ok (.lst ((usrt lexL ks).map fun k => .tup (k.map W.int))) S else .bad
      | none => .bad) else .bad
  | none => .bad
section
variable {X : Cx} {E : XK} {a : Expr} {ma : SM W} {p1 p2 q pos : Pos}
theorem pm_srtset (hc : X.calm = true) (hu : X.A.units + 64 < cLine) (hg : Gl X "sorted") (hm : X.mg "sorted" = none) (hg2 : Gl X "set") (hm2 : X.mg "set" = none) (ha : PM X E a ma) (hs : starEach [a] X.env = [(false, eval a X.env)] := by rfl)
    (hs2 : starEach [Expr.Call (.Name "set" p2) [a] [] q] X.env = [(false, eval (Expr.Call (.Name "set" p2) [a] [] q) X.env)] := by rfl) : PM X E (.Call (.Name "sorted" p1) [.Call (.Name "set" p2) [a] [] q] [] pos) (mUn gSrtSet ma) := by
  have h1 := pe_callTy (p := p2) (pos := q) (cr_or (cr_setL (X := X) hc) (cr_setOfT hc hu)) hg2 hm2 (by decide +kernel) (pa_cons ha pa_nil hs) (by decide +kernel) (by decide +kernel) hs rfl
  have h2 := pe_callB (p := p1) (pos := pos) (cr_or (cr_sortedSet (X := X) hc) (cr_sortedT hc)) hg hm (by decide +kernel) (pa_cons h1 pa_nil hs2) (by decide +kernel) (by decide +kernel) hs2 rfl
  refine pe_imp h2 fun σ H Q h => ?_
  show tE X E ma σ H fun x H1 => _
  refine tX.bind (m := ma) (k := fun w s S => gSrtSet w S) h fun ρ H1 w x s S1 rep env r o => ?_
  unfold gSrtSet at o
  cases e1 : seqL S1 w with
  | none => rw [e1] at o; exact o.elim
  | some ws =>
    obtain ⟨l, vs, rfl, hl, hr⟩ := seqL_of rep r e1
    simp only [e1] at o
    split at o
    · rename_i h64
      cases e2 : intsW ws with
      | some ns =>
        simp only [e2] at o
        have ew := intsW_of e2
        subst ew
        have ev := rws_ints hr
        subst ev
        rw [List.length_map] at h64
        refine .inl ⟨l, ns, rfl, hl, h64, fun p c hp hc1 => .inl ⟨p, _, c, rfl, upd_same, by omega, fun ms p3 hs1 hm1 hl1 hp3 => ?_⟩⟩
        obtain ⟨e3, rep3⟩ := rep.tree hp (SetO X.w p (fun j => decide (j ∈ ns)) c)
        obtain ⟨e4, rep4⟩ := rep3.tree hp3 (.lst (ms.map V.int))
        have eq : ms = usrt ltI ns := usrt_eq totI (fun z => by rw [hm1 z]; simp) (hs1.imp fun hab => by simpa [ltI] using hab)
        subst eq
        exact o ρ _ _ (e3.trans e4) rep4 (.lst (fx_new rep3 hp3 _) (ints_rws _))
      | none =>
        simp only [e2] at o
        cases e5 : tupsW ws with
        | none => rw [e5] at o; exact o.elim
        | some ks =>
          simp only [e5] at o
          split at o
          · rename_i hsh
            obtain ⟨d, B, hd, hB⟩ := shape_of hsh
            obtain ⟨ps, rfl, rfl, hps⟩ := tupsW_of e5 hr
            have hlen : ps.length < 64 := by rw [hr.length, List.length_map] at h64; exact h64
            refine .inr ⟨l, ps, rfl, hl, fun p m => (hps p m).1, hlen, fun p L hp hL1 hL2 => .inr ⟨p, L, d, B, rfl, upd_same, fun z m => ?_, hd, fun z m => hB _ (List.mem_map.mpr ⟨z, hL1 z m, rfl⟩), fun L' p3 pm nd h64' pw hp3 => ?_⟩⟩
            · obtain ⟨e3, rep3⟩ := rep.tree hp (SetTO X.prog X.w p L)
              have rr := (hps z (hL1 z m)).2.ext e3
              cases rr with
              | tup hf hr2 =>
                have := rws_ints hr2
                subst this
                exact sqT_of hf
            · obtain ⟨e3, rep3⟩ := rep.tree hp (SetTO X.prog X.w p L)
              obtain ⟨e4, rep4⟩ := rep3.tree hp3 (.lst (L'.map fun q => V.ref q.1))
              have inps : ∀ z, z ∈ L' → z ∈ ps := fun z m => hL1 z (pm.mem_iff.mp m)
              have codes : (L'.map (·.2)).Pairwise fun a b => lexL b a = false := pw_codes (d := d) (B := B) (fun k hk => by
                obtain ⟨z, m, rfl⟩ := List.mem_map.mp hk
                exact hB _ (List.mem_map.mpr ⟨z, inps z m, rfl⟩)) (List.pairwise_map.mpr pw)
              have strict : (L'.map (·.2)).Pairwise fun a b => lexL a b = true := by
                refine (codes.and nd).imp fun {a b} hab => ?_
                rcases totL.tri a b hab.2 with z | z
                · exact z
                · rw [hab.1] at z; cases z
              have eq : L'.map (·.2) = usrt lexL (ps.map (·.2)) := usrt_eq totL (fun k => ⟨fun m => ?_, fun m => ?_⟩) strict
              · have hall : ∀ z, z ∈ L' → RW X.K X.mg ρ (upd (upd H1 p (SetTO X.prog X.w p L)) p3 (.lst (L'.map fun q => V.ref q.1))) (.tup (z.2.map W.int)) (.ref z.1) := fun z m => ((hps z (inps z m)).2.ext e3).ext e4
                have rr := pairs_rws hall
                rw [eq] at rr
                exact o ρ _ _ (e3.trans e4) rep4 (.lst (fx_new rep3 hp3 _) rr)
              · obtain ⟨z, hz, rfl⟩ := List.mem_map.mp m
                exact List.mem_map.mpr ⟨z, inps z hz, rfl⟩
              · obtain ⟨z, hz, rfl⟩ := List.mem_map.mp m
                obtain ⟨y, hy, e⟩ := List.mem_map.mp (hL2 z hz)
                exact List.mem_map.mpr ⟨y, pm.mem_iff.mpr hy, e⟩
          · exact o.elim
    · exact o.elim
end

/-- sorted(xs) -/
def gSorted (w : W) (S : Store) : Res W := match seqL S w with
  | some ws => (match intsW ws with
    | some ns => .ok (.lst ((srt ltI ns).map W.int)) S
    | none => match tupsW ws with
      | some ks => if ks.length < 64 ∧ shapeT ks = true then .ok (.lst ((srt lexL ks).map fun k => .tup (k.map W.int))) S else .bad
      | none => .bad)
  | none => .bad
theorem perm_pairs {xs : List V} {ps : List (Addr × List Int)} (p : xs.Perm (ps.map fun q => V.ref q.1)) : ∃ qs : List (Addr × List Int), xs = qs.map (fun q => V.ref q.1) ∧ qs.Perm ps := by
  generalize hz : ps.map (fun q => V.ref q.1) = zs at p
  induction p generalizing ps with
  | nil => exact ⟨ps, by rw [hz], List.Perm.refl _⟩
  | cons x p ih =>
    cases ps with
    | nil => simp at hz
    | cons q r =>
      rw [List.map_cons, List.cons.injEq] at hz
      obtain ⟨qs, e, pp⟩ := ih hz.2
      exact ⟨q :: qs, by rw [List.map_cons, hz.1, e], pp.cons q⟩
  | swap x y l =>
    match ps, hz with
    | a :: b :: r, hz =>
      simp only [List.map_cons, List.cons.injEq] at hz
      exact ⟨b :: a :: r, by simp only [List.map_cons]; rw [hz.1, hz.2.1, hz.2.2], List.Perm.swap a b r⟩
  | trans p1 p2 ih1 ih2 =>
    obtain ⟨qs, e, pp⟩ := ih2 hz
    obtain ⟨qs', e', pp'⟩ := ih1 e.symm
    exact ⟨qs', e', pp'.trans pp⟩
section
variable {X : Cx} {E : XK}
theorem cm_sorted : CallM X E (.builtin "sorted") (g1 gSorted) := cm1 fun pins s σ H x us Q ρ S w I r rep rw' o => by
  unfold gSorted at o
  cases e1 : seqL S w with
  | none => rw [e1] at o; exact o.elim
  | some ws =>
    obtain ⟨l, vs, rfl, hl, hr⟩ := seqL_of rep rw' e1
    simp only [e1] at o
    cases e2 : intsW ws with
    | some ns =>
      simp only [e2] at o
      have ew := intsW_of e2
      subst ew
      have ev := rws_ints hr
      subst ev
      refine cr_sortedI pins s σ H _ us Q I r ⟨l, ns, rfl, hl, fun ms p pm pw hp => ?_⟩
      obtain ⟨e3, rep3⟩ := rep.tree hp (.lst (ms.map V.int))
      have eq : ms = srt ltI ns := srt_eq totI pm (pw.imp fun hab => by simp [ltI]; omega)
      subst eq
      exact o ρ _ _ e3 rep3 (.lst (fx_new rep hp _) (ints_rws _))
    | none =>
      simp only [e2] at o
      cases e5 : tupsW ws with
      | none => rw [e5] at o; exact o.elim
      | some ks =>
        simp only [e5] at o
        split at o
        · rename_i hsh
          obtain ⟨d, B, hd, hB⟩ := shape_of hsh.2
          obtain ⟨ps, rfl, rfl, hps⟩ := tupsW_of e5 hr
          have h64 : ps.length < 64 := by simpa using hsh.1
          refine cr_sortT (d := d) (B := B) hd pins s σ H _ us Q I r ⟨l, _, rfl, hl, by simpa using h64, fun x hx => ?_, fun ys p pm pw hp => ?_⟩
          · obtain ⟨z, m, rfl⟩ := List.mem_map.mp hx
            exact ⟨z.2, ⟨z.1, rfl, (hps z m).1⟩, hB _ (List.mem_map.mpr ⟨z, m, rfl⟩)⟩
          · obtain ⟨qs, rfl, pq⟩ := perm_pairs pm
            have inps : ∀ z, z ∈ qs → z ∈ ps := fun z m => pq.mem_iff.mp m
            obtain ⟨e3, rep3⟩ := rep.tree hp (.lst (qs.map fun q => V.ref q.1))
            have codes : (qs.map (·.2)).Pairwise fun a b => lexL b a = false := by
              refine pw_codes (d := d) (B := B) (fun k hk => ?_) (List.pairwise_map.mpr ?_)
              · obtain ⟨z, m, rfl⟩ := List.mem_map.mp hk
                exact hB _ (List.mem_map.mpr ⟨z, inps z m, rfl⟩)
              · refine (List.pairwise_map.mp pw).imp_of_mem fun {a b} ha hb hab => ?_
                exact hab _ _ ⟨a.1, rfl, (hps a (inps a ha)).1⟩ ⟨b.1, rfl, (hps b (inps b hb)).1⟩
            have eq : qs.map (·.2) = srt lexL (ps.map (·.2)) := srt_eq totL (pq.map _) codes
            have hall : ∀ z, z ∈ qs → RW X.K X.mg ρ (upd H p (.lst (qs.map fun q => V.ref q.1))) (.tup (z.2.map W.int)) (.ref z.1) := fun z m => (hps z (inps z m)).2.ext e3
            have rr := pairs_rws hall
            rw [eq] at rr
            exact o ρ _ _ e3 rep3 (.lst (fx_new rep hp _) rr)
        · exact o.elim
end
/-! ### list.append, list.insert -/
def gAppend (o : W) (ws : List W) (S : Store) : Res W := match o, ws with
  | .ref l, [w] => match lstAt S l with
    | some us => if us.length < lim then .ok .non (S.set l (.lst (us ++ [w]))) else .bad
    | none => .bad
  | _, _ => .bad
def gInsert (o : W) (ws : List W) (S : Store) : Res W := match o, ws with
  | .ref l, [.int i, w] => match lstAt S l with
    | some us => if us.length < lim ∧ 0 ≤ i ∧ i < 2 ^ 63 then .ok .non (S.set l (.lst (us.take i.toNat ++ [w] ++ us.drop i.toNat))) else .bad
    | none => .bad
  | _, _ => .bad
/-- it stands as a list before the arguments are read -/
def gMetL (g : W → List W → Store → Res W) (mo : SM W) (mr : SM (List W)) : SM W := fun s S => (mo s S).bind fun o S1 => match o with
  | .ref l => match lstAt S1 l with
    | some _ => (mr s S1).bind fun ws S2 => g o ws S2
    | none => .bad
  | _ => .bad

section
variable {X : Cx} {E : XK} {o e : Expr} {es : List Expr} {mo : SM W} {mr : SM (List W)} {apos cpos : Pos} {name : Str} {id : String}
def okMet (X : Cx) (E : XK) (g : W → List W → Store → Res W) (r : V → List V → Hp → VK → Prop) : Prop := ∀ ρ H S w x ws vs Q, RepS X.K X.mg ρ H S → RW X.K X.mg ρ H w x → RWs X.K X.mg ρ H ws vs → Out X.K X.mg (RW X.K X.mg) E ρ H (g w ws S) Q → r x vs H Q
theorem pm_metL {g : W → List W → Store → Res W} {r : V → List V → Hp → VK → Prop} (slot : Slot "list" name id) (hty : typeOf (.builtin id) = pure (.type "method_descriptor")) (hm : MtR X id r) (hr : okMet X E g r) (ho : PM X E o mo) (ha : PAM X E (e :: es) mr)
    (hbase : attributeBase o name X.env (eval o X.env) = eval o X.env := by rfl)
    (hfew : ((backTo cpos (starEach (e :: es) X.env)).all (fun x => !x.1) && (backToKw cpos (keywordEach [] X.env)).all (fun x => x.1.isSome)
      && decide ((e :: es).length + ([] : List Keyword).length + (if ([] : List Keyword).isEmpty then 0 else 1) < 30)) = true := by rfl)
    (hline : (apos.endLine == cpos.line) = true := by rfl) (hs : starEach (e :: es) X.env = (false, eval e X.env) :: starEach es X.env := by rfl) (hplain : (backTo cpos (starEach es X.env)).any (·.1) = false := by rfl) :
    PM X E (.Call (.Attribute o name apos) (e :: es) [] cpos) (gMetL g mo mr) := by
  refine pe_imp (pe_bm PySem.F.plainAttrs_list slot hty hm ho ha hbase hfew hline hs hplain) fun σ H Q h => tX.bind h fun ρ1 H1 w x s S1 rep env rx out => ?_
  cases w with
  | ref l =>
    cases rx with
    | @ref l p hl =>
      dsimp only at out
      cases e1 : lstAt S1 l with
      | none => rw [e1] at out; exact out.elim
      | some us =>
        rw [e1] at out
        obtain ⟨vs, h1, h2⟩ := lstAt_of rep hl e1
        refine ⟨.inl ⟨rfl, vs, .inl (.inl h1)⟩, ρ1, s, S1, rep, env, Out.bind out fun ρ2 H2 ws xs S2 e2 rep2 r2 o2 => hr ρ2 H2 S2 (.ref l) _ ws xs Q rep2 (.ref (e2.pre _ _ hl)) r2 o2⟩
  | _ => exact out.elim
theorem out_wr {K : PySem.W.Frag} {mg : Str → Option Value} {ρ : RT} {H : Hp} {S : Store} {Q : VK} {l : Nat} {p : Addr} {ws : List W} {vs : List V} (rep : RepS K mg ρ H S) (hl : ρ.r[l]? = some p) (out : Out K mg (RW K mg) E ρ H (.ok .non (S.set l (.lst ws))) Q)
    (hr : ∀ ρ' H', Ext ρ H ρ' H' → RWs K mg ρ' H' ws vs) : Q .non (upd H p (.lst vs)) := by
  have ma : p ∈ ρ.r := List.mem_of_getElem? hl
  have ex : Ext ρ H ρ (upd H p (.lst vs)) := ⟨fun _ _ h => h, fun _ h => h, fun _ h => .inl h, fun b u hb n => by rw [upd_ne fun z : b = p => n (by rw [z]; exact ma)]; exact hb, fun _ h => .inl h, fun b _ hb => by
    by_cases hz : b = p
    · subst hz; rw [upd_same]; simp
    · rw [upd_ne hz]; exact hb⟩
  obtain ⟨e3, rep3⟩ := rep.wr hl (o := .lst vs) (u := .lst ws) (.lst upd_same (hr _ _ ex))
  exact out ρ _ _ e3 rep3 .non
theorem ok_append : okMet X E gAppend rAppend := fun ρ H S w x ws vs Q rep rx rs out => by
  cases w with
  | ref l =>
    cases rx with
    | @ref l p hl =>
      match ws, rs, out with
      | [], _, out => exact out.elim
      | _ :: _ :: _, _, out => exact out.elim
      | [u], rs, out =>
        obtain ⟨y, rfl, ru⟩ := rs.one
        dsimp only [gAppend] at out
        cases e1 : lstAt S l with
        | none => rw [e1] at out; exact out.elim
        | some us =>
          simp only [e1] at out
          obtain ⟨xs, h1, h2⟩ := lstAt_of rep hl e1
          split at out
          · rename_i hz
            refine ⟨p, xs, y, rfl, rfl, h1, by rw [← h2.length]; exact Nat.lt_of_lt_of_le hz (Nat.le_of_eq sizeLine_eq.symm), ?_⟩
            exact out_wr rep hl out fun ρ' H' e => (h2.ext e).append (.cons (ru.ext e) .nil)
          · exact out.elim
  | _ => exact out.elim
theorem ok_insert : okMet X E gInsert (fun x vs H Q => ∃ (l : Addr) (xs : List V) (i : Int) (y : V), x = .ref l ∧ vs = [.int i, y] ∧ H l = some (.lst xs) ∧ xs.length < sizeLine ∧ 0 ≤ i ∧ i < 2 ^ 63 ∧
    Q .non (upd H l (.lst (xs.take i.toNat ++ [y] ++ xs.drop i.toNat)))) := fun ρ H S w x ws vs Q rep rx rs out => by
  cases w with
  | ref l =>
    cases rx with
    | @ref l p hl =>
      match ws, rs, out with
      | [], _, out => exact out.elim
      | [w], _, out => cases w <;> exact out.elim
      | w :: _ :: _ :: _, _, out => cases w <;> exact out.elim
      | [v, u], rs, out =>
        cases v with
        | int i =>
          obtain ⟨y0, y, rfl, r0, ru⟩ := rs.two
          cases r0
          dsimp only [gInsert] at out
          cases e1 : lstAt S l with
          | none => rw [e1] at out; exact out.elim
          | some us =>
            simp only [e1] at out
            obtain ⟨xs, h1, h2⟩ := lstAt_of rep hl e1
            split at out
            · rename_i hz
              refine ⟨p, xs, i, y, rfl, rfl, h1, by rw [← h2.length]; exact Nat.lt_of_lt_of_le hz.1 (Nat.le_of_eq sizeLine_eq.symm), hz.2.1, hz.2.2, ?_⟩
              exact out_wr rep hl out fun ρ' H' e => (((h2.ext e).take _).append (.cons (ru.ext e) .nil)).append ((h2.ext e).drop _)
            · exact out.elim
        | _ => exact out.elim
  | _ => exact out.elim
end
end RL
end

section
set_option maxRecDepth 100000
set_option maxHeartbeats 2000000
namespace RL
open PySem PySem.Spec L2 OrdX
open PyProof.Rows hiding St
/-! ### loops, by invariants -/
/-- what an iterator walks over -/
def Items (S : Store) (it : ItW) (ws : List W) : Prop := match it with
  | .fix us => us = ws
  | .gen nx => ∀ i, nx i S = some ws[i]?
/-- a list or tuple of these -/
def Seq (S : Store) (w : W) (ws : List W) : Prop := w = .lst ws ∨ w = .flst ws ∨ w = .tup ws ∨ ∃ l, w = .ref l ∧ lstAt S l = some ws
section
variable {g : GM} {m : SS} {s : Env'} {S : Store} {ws : List W} {w : W} {it : ItW}
theorem items_seq (h : Seq S w ws) {s : Env'} {ma : SM W} (e : ma s S = .ok w S) : ∃ it, mItems ma s S = .ok it S ∧ Items S it ws := by
  rw [mItems_eq, e, ok_bind]
  rcases h with rfl | rfl | rfl | ⟨l, rfl, hl⟩
  · exact ⟨_, rfl, rfl⟩
  · exact ⟨_, rfl, rfl⟩
  · exact ⟨_, rfl, rfl⟩
  · exact ⟨.gen (nxL l), by simp [hl], fun i => by simp [nxL, hl]⟩
theorem len_seq (h : Seq S w ws) : gLen w S = .ok (.int ws.length) S := by
  rcases h with rfl | rfl | rfl | ⟨l, rfl, hl⟩
  · rfl
  · rfl
  · rfl
  · simp [gLen, hl]
theorem ix_seq (h : Seq S w ws) {i : Int} {u : W} (e : atI ws i = some u) : gIx w (.int i) S = .ok u S := by
  rcases h with rfl | rfl | rfl | ⟨l, rfl, hl⟩
  · simp [e]
  · simp [e]
  · simp [e]
  · simp [hl, e]
theorem forL_ev (J : List W → Env' → Store → Prop) (step : ∀ w r s S, J (w :: r) s S → Ev (g w s S) fun s1 S1 => Ev (m s1 S1) fun p S2 => p.1 = .nx ∧ J r p.2 S2) :
    ∀ (ws : List W) (s : Env') (S : Store), J ws s S → Ev (mForL g m ws s S) fun p S' => p.1 = .nx ∧ J [] p.2 S'
  | [], s, S, h => Ev.ok ⟨rfl, h⟩
  | w :: r, s, S, h => by
    show Ev ((g w s S).bind fun s1 S1 => (m s1 S1).bind fun p S2 => _) _
    rw [ev_bind]
    refine (step w r s S h).mono fun s1 S1 h1 => ?_
    rw [ev_bind]
    refine h1.mono fun p S2 ⟨h2, h3⟩ => ?_
    obtain ⟨f, s2⟩ := p
    cases h2
    exact forL_ev J step r s2 S2 h3
theorem forN_ev (J : List W → Env' → Store → Prop) {l : Nat → Store → Option (Option W)} {ws : List W} (hl : ∀ r s S, J r s S → ∀ i, l i S = some ws[i]?) (step : ∀ w r s S, J (w :: r) s S → Ev (g w s S) fun s1 S1 => Ev (m s1 S1) fun p S2 => p.1 = .nx ∧ J r p.2 S2) :
    ∀ (n i : Nat) (s : Env') (S : Store), ws.length - i < n → J (ws.drop i) s S → Ev (mForN g m l n i s S) fun p S' => p.1 = .nx ∧ J [] p.2 S'
  | 0, i, s, S, hn, _ => absurd hn (Nat.not_lt_zero _)
  | n + 1, i, s, S, hn, h => by
    have e := hl _ _ _ h i
    unfold mForN
    simp only [e]
    cases e2 : ws[i]? with
    | none =>
      have : ws.drop i = [] := List.drop_eq_nil_of_le (by rw [List.getElem?_eq_none_iff] at e2; exact e2)
      rw [this] at h
      exact Ev.ok ⟨rfl, h⟩
    | some w =>
      obtain ⟨hi, rfl⟩ := List.getElem?_eq_some_iff.mp e2
      rw [List.drop_eq_getElem_cons hi] at h
      show Ev ((g ws[i] s S).bind fun s1 S1 => (m s1 S1).bind fun p S2 => _) _
      rw [ev_bind]
      refine (step _ _ s S h).mono fun s1 S1 h1 => ?_
      rw [ev_bind]
      refine h1.mono fun p S2 ⟨h2, h3⟩ => ?_
      obtain ⟨f, s2⟩ := p
      cases h2
      exact forN_ev J hl step n (i + 1) s2 S2 (by omega) h3
theorem forI_ev (J : List W → Env' → Store → Prop) (hit : ∀ r s S, J r s S → Items S it ws) (hn : ws.length < turns) (step : ∀ w r s S, J (w :: r) s S → Ev (g w s S) fun s1 S1 => Ev (m s1 S1) fun p S2 => p.1 = .nx ∧ J r p.2 S2)
    (h : J ws s S) : Ev (mForI it g m s S) fun p S' => p.1 = .nx ∧ J [] p.2 S' := by
  cases it with
  | fix us =>
    cases (hit _ _ _ h : us = ws)
    exact forL_ev J step _ s S h
  | gen l => exact forN_ev J hit step turns 0 s S (by omega) (by rw [List.drop_zero]; exact h)
end
section
variable {g : GM} {t : SM Bool} {e : SM W} {s0 : Env'} {S : Store} {ws : List W} {w : W} {it : ItW}
theorem lcN_ev (I : List W → List W → Store → Prop) {l : Nat → Store → Option (Option W)} (hl : ∀ r acc S, I r acc S → ∀ i, l i S = some ws[i]?) (step : ∀ w r acc S, I (w :: r) acc S → Ev (mLcT g t e s0 w acc S) fun acc' S' => I r acc' S') :
    ∀ (n i : Nat) (acc : List W) (S : Store), ws.length - i < n → I (ws.drop i) acc S → Ev (mLcN g t e s0 l n i acc S) fun acc' S' => I [] acc' S'
  | 0, i, acc, S, hn, _ => absurd hn (Nat.not_lt_zero _)
  | n + 1, i, acc, S, hn, h => by
    have e1 := hl _ _ _ h i
    unfold mLcN
    simp only [e1]
    cases e2 : ws[i]? with
    | none =>
      have : ws.drop i = [] := List.drop_eq_nil_of_le (by rw [List.getElem?_eq_none_iff] at e2; exact e2)
      rw [this] at h
      exact Ev.ok h
    | some w =>
      obtain ⟨hi, rfl⟩ := List.getElem?_eq_some_iff.mp e2
      rw [List.drop_eq_getElem_cons hi] at h
      show Ev ((mLcT g t e s0 ws[i] acc S).bind fun acc S => _) _
      rw [ev_bind]
      exact (step _ _ acc S h).mono fun acc' S' q => lcN_ev I hl step n (i + 1) acc' S' (by omega) q
theorem lcI_ev (I : List W → List W → Store → Prop) (hit : ∀ r acc S, I r acc S → Items S it ws) (hn : ws.length < turns) (step : ∀ w r acc S, I (w :: r) acc S → Ev (mLcT g t e s0 w acc S) fun acc' S' => I r acc' S')
    (h : I ws [] S) : Ev (mLcI it g t e s0 S) fun acc' S' => I [] acc' S' := by
  cases it with
  | fix us =>
    cases (hit _ _ _ h : us = ws)
    exact lcL_ev I step _ _ S h
  | gen l => exact lcN_ev I hit step turns 0 [] S (by omega) (by rw [List.drop_zero]; exact h)
/-- where nothing is changed: those with p, by f -/
theorem lcI_fp (p : W → Bool) (f : W → W) (hit : Items S it ws) (hn : ws.length < turns) (h : ∀ w, w ∈ ws → ∃ s1, g w s0 S = .ok s1 S ∧ t s1 S = .ok (p w) S ∧ (p w = true → e s1 S = .ok (f w) S)) :
    mLcI it g t e s0 S = .ok ((ws.filter p).map f) S := by
  refine Ev.eq ((lcI_ev (ws := ws) (fun r acc T => T = S ∧ (∀ w, w ∈ r → w ∈ ws) ∧ acc.length + r.length ≤ ws.length ∧ acc ++ (r.filter p).map f = (ws.filter p).map f) (fun r acc T q => by rw [q.1]; exact hit) hn ?_ ⟨rfl, fun _ h => h, by simp, rfl⟩).mono ?_)
  · rintro w r acc T ⟨rfl, h1, h2, h3⟩
    obtain ⟨s1, e1, e2, e3⟩ := h w (h1 w List.mem_cons_self)
    rw [List.length_cons] at h2
    have ht : turns = 100000 := rfl
    have hl : lim = 16777216 := rfl
    rw [mLcT_eq, e1, nox_ok, ok_bind, e2, nox_ok, ok_bind]
    cases hp : p w with
    | false =>
      rw [if_neg Bool.false_ne_true]
      rw [List.filter_cons, hp] at h3
      exact Ev.ok ⟨rfl, fun u m => h1 u (List.mem_cons_of_mem _ m), by omega, by simpa using h3⟩
    | true =>
      rw [if_pos rfl, e3 hp, nox_ok, ok_bind, if_pos (by omega)]
      rw [List.filter_cons, hp] at h3
      exact Ev.ok ⟨rfl, fun u m => h1 u (List.mem_cons_of_mem _ m), by rw [List.length_append, List.length_singleton]; omega, by simpa using h3⟩
  · rintro acc T ⟨rfl, _, _, h3⟩
    exact ⟨by simpa using h3, rfl⟩
end
/-! ### in -/
section
variable {S : Store}
theorem gIn_ints {n : Bool} {x : Int} {w : W} {ys : List Int} (h : (tupL w).or (seqL S w) = some (ys.map W.int)) : gIn n (.int x) w S = .ok (.bl (xorB n (decide (x ∈ ys)))) S := by
  have h1 : (ys.map W.int).all flatW = true := by rw [List.all_map, List.all_eq_true]; intro _ _; rfl
  have h2 : inW (.int x) (ys.map W.int) = decide (x ∈ ys) := by
    unfold inW
    rw [List.any_map, Bool.eq_iff_iff, List.any_eq_true, decide_eq_true_eq]
    exact ⟨fun ⟨y, hy, e⟩ => by rw [← eq_of_beq (show (y == x) = true from e)]; exact hy, fun hx => ⟨x, hx, beq_self_eq_true x⟩⟩
  cases w with
  | str y => simp [tupL, seqL] at h
  | _ => simp only [gIn, h, h1, h2, flatW, and_self, if_true]
end
end RL
end

section
set_option maxRecDepth 100000
set_option maxHeartbeats 4000000
namespace RL
open PySem PySem.Spec L2 OrdX
open PyProof.Rows hiding St
/-! ### dicts -/
def keyW : W → Option Key
  | .str x => some (.inr x)
  | .int i => some (.inl i)
  | _ => none
def wKey : Key → W
  | .inl i => .int i
  | .inr x => .str x
abbrev KW := List (Key × W)
def valW (kws : KW) (k : Key) : Option W := (kws.find? fun kv => decide (kv.1 = k)).map (·.2)
def putW (kws : KW) (k : Key) (w : W) : KW := if (kws.any fun kv => decide (kv.1 = k)) = true then kws.map (fun kv => if kv.1 = k then (kv.1, w) else kv) else kws ++ [(k, w)]
def mergeW (kws more : KW) : KW := more.foldl (fun acc kv => putW acc kv.1 kv.2) kws
def dicO (kws : KW) : Ob := .dic (kws.map (·.1)) (kws.map (·.2))
def dicT (kws : KW) : W := .dic (kws.map (·.1)) (kws.map (·.2))
/-- the dict of the store at place l -/
def dicL (S : Store) (l : Nat) : Option KW := match S[l]? with
  | some (.dic ks ws) => if ks.length = ws.length then some (ks.zip ws) else none
  | _ => none
/-- the dict that a value is -/
def dicAt (S : Store) : W → Option KW
  | .dic ks ws => if ks.length = ws.length then some (ks.zip ws) else none
  | .ref l => dicL S l
  | _ => none
section
variable (K : PySem.W.Frag) (mg : Str → Option Value) (ρ : RT) (H : Hp)
inductive RKW : KW → List (Key × V) → Prop where
  | nil : RKW [] []
  | cons {k : Key} {w : W} {v : V} {kws : KW} {kvs : List (Key × V)} (r : RW K mg ρ H w v) (t : RKW kws kvs) : RKW ((k, w) :: kws) ((k, v) :: kvs)
end
section
variable {K : PySem.W.Frag} {mg : Str → Option Value} {ρ ρ' : RT} {H H' : Hp} {S : Store}
theorem zip_unzip {α β : Type} : ∀ l : List (α × β), (l.map (·.1)).zip (l.map (·.2)) = l
  | [] => rfl
  | p :: l => by rw [List.map_cons, List.map_cons, List.zip_cons_cons, zip_unzip l]
theorem map1_zip {α β : Type} : ∀ {a : List α} {b : List β}, a.length = b.length → (a.zip b).map (·.1) = a
  | [], _, _ => by simp
  | x :: a, y :: b, h => by simp [map1_zip (a := a) (b := b) (by simpa using h)]
theorem map2_zip {α β : Type} : ∀ {a : List α} {b : List β}, a.length = b.length → (a.zip b).map (·.2) = b
  | [], [], _ => rfl
  | x :: a, y :: b, h => by simp [map2_zip (a := a) (b := b) (by simpa using h)]
theorem rkw_zip : ∀ {ks : List Key} {ws : List W} {vs : List V}, RWs K mg ρ H ws vs → RKW K mg ρ H (ks.zip ws) (ks.zip vs)
  | [], _, _, _ => by simp; exact .nil
  | k :: ks, _, _, .nil => by simp; exact .nil
  | k :: ks, _, _, .cons r t => .cons r (rkw_zip t)
theorem RKW.rws : ∀ {kws : KW} {kvs : List (Key × V)}, RKW K mg ρ H kws kvs → RWs K mg ρ H (kws.map (·.2)) (kvs.map (·.2))
  | _, _, .nil => .nil
  | _, _, .cons r t => .cons r t.rws
theorem RKW.keys : ∀ {kws : KW} {kvs : List (Key × V)}, RKW K mg ρ H kws kvs → kws.map (·.1) = kvs.map (·.1)
  | _, _, .nil => rfl
  | _, _, .cons r t => by rw [List.map_cons, List.map_cons, t.keys]
theorem RKW.len {kws : KW} {kvs : List (Key × V)} (r : RKW K mg ρ H kws kvs) : kws.length = kvs.length := by
  have := congrArg List.length r.keys
  simpa using this
theorem RKW.ext (e : Ext ρ H ρ' H') : ∀ {kws : KW} {kvs : List (Key × V)}, RKW K mg ρ H kws kvs → RKW K mg ρ' H' kws kvs
  | _, _, .nil => .nil
  | _, _, .cons r t => .cons (r.ext e) (t.ext e)
theorem RKW.map (f : ∀ {w : W} {v : V}, RW K mg ρ H w v → RW K mg ρ' H' w v) : ∀ {kws : KW} {kvs : List (Key × V)}, RKW K mg ρ H kws kvs → RKW K mg ρ' H' kws kvs
  | _, _, .nil => .nil
  | _, _, .cons r t => .cons (f r) (t.map f)
theorem RKW.val {k : Key} : ∀ {kws : KW} {kvs : List (Key × V)}, RKW K mg ρ H kws kvs → (valW kws k = none ∧ valV kvs k = none) ∨ ∃ w v, valW kws k = some w ∧ valV kvs k = some v ∧ RW K mg ρ H w v
  | _, _, .nil => .inl ⟨rfl, rfl⟩
  | _, _, .cons (k := j) (w := w) (v := v) (kws := kws) (kvs := kvs) r t => by
    by_cases h : j = k
    · exact .inr ⟨w, v, by simp [valW, h], by simp [valV, h], r⟩
    · have e1 : valW ((j, w) :: kws) k = valW kws k := by simp [valW, List.find?_cons, h]
      have e2 : valV ((j, v) :: kvs) k = valV kvs k := by simp [valV, List.find?_cons, h]
      rw [e1, e2]
      exact t.val
theorem RKW.any {k : Key} : ∀ {kws : KW} {kvs : List (Key × V)}, RKW K mg ρ H kws kvs → (kws.any fun kv => decide (kv.1 = k)) = kvs.any fun kv => decide (kv.1 = k)
  | _, _, .nil => rfl
  | _, _, .cons r t => by rw [List.any_cons, List.any_cons, t.any]
theorem RKW.snoc {k : Key} {w : W} {v : V} (q : RW K mg ρ H w v) : ∀ {kws : KW} {kvs : List (Key × V)}, RKW K mg ρ H kws kvs → RKW K mg ρ H (kws ++ [(k, w)]) (kvs ++ [(k, v)])
  | _, _, .nil => .cons q .nil
  | _, _, .cons r t => .cons r (t.snoc q)
theorem RKW.repl {k : Key} {w : W} {v : V} (q : RW K mg ρ H w v) : ∀ {kws : KW} {kvs : List (Key × V)}, RKW K mg ρ H kws kvs → RKW K mg ρ H (kws.map fun kv => if kv.1 = k then (kv.1, w) else kv) (kvs.map fun kv => if kv.1 = k then (kv.1, v) else kv)
  | _, _, .nil => .nil
  | _, _, .cons (k := j) r t => by
    rw [List.map_cons, List.map_cons]
    by_cases h : j = k
    · simp only [h, if_true]; exact .cons q (by simpa using t.repl q)
    · simp only [h, if_false]; exact .cons r (by simpa using t.repl q)
theorem RKW.put {k : Key} {w : W} {v : V} {kws : KW} {kvs : List (Key × V)} (r : RKW K mg ρ H kws kvs) (q : RW K mg ρ H w v) : RKW K mg ρ H (putW kws k w) (putK kvs k v) := by
  unfold putW putK
  rw [r.any]
  split
  · exact r.repl q
  · exact r.snoc q
theorem RKW.merge : ∀ {more : KW} {mvs : List (Key × V)} {kws : KW} {kvs : List (Key × V)}, RKW K mg ρ H more mvs → RKW K mg ρ H kws kvs → RKW K mg ρ H (mergeW kws more) (mergeK kvs mvs)
  | _, _, _, _, .nil, h => h
  | _, _, _, _, .cons (k := k) (w := w) (v := v) (kws := more) (kvs := mvs) r t, h => by
    have := RKW.merge t (h.put (k := k) r)
    exact this
theorem keyW_of {w : W} {x : V} {k : Key} (r : RW K mg ρ H w x) (h : keyW w = some k) : x = kV k := by
  cases w with
  | str y => cases h; cases r; rfl
  | int i => cases h; cases r; rfl
  | _ => cases h
theorem wKey_rw (k : Key) : RW K mg ρ H (wKey k) (kV k) := by
  cases k with
  | inl i => exact .int i
  | inr x => exact .str x
theorem dicAt_of {w : W} {x : V} {kws : KW} (rep : RepS K mg ρ H S) (r : RW K mg ρ H w x) (h : dicAt S w = some kws) : ∃ a kvs, x = .ref a ∧ H a = some (.dK kvs) ∧ RKW K mg ρ H kws kvs := by
  cases w with
  | dic ks ws =>
    have h : (if ks.length = ws.length then some (ks.zip ws) else none) = some kws := h
    split at h
    · cases h
      cases r with | dic hf hl hr => exact ⟨_, _, rfl, hf.1, rkw_zip hr⟩
    · cases h
  | ref l =>
    cases r with
    | @ref l p hl =>
      have h : dicL S l = some kws := h
      unfold dicL at h
      cases e : S[l]? with
      | none => rw [e] at h; cases h
      | some ob =>
        rw [e] at h
        cases ob with
        | dic ks ws =>
          have h : (if ks.length = ws.length then some (ks.zip ws) else none) = some kws := h
          split at h
          · cases h
            obtain ⟨a, h1, h2⟩ := rep.ob l _ e
            rw [hl] at h1; cases h1
            cases h2 with | dic h3 h4 h5 => exact ⟨_, _, rfl, h3, rkw_zip h5⟩
          · cases h
        | _ => cases h
  | _ => cases h
theorem ro_dic {a : Addr} {kws : KW} {kvs : List (Key × V)} (h : H a = some (.dK kvs)) (r : RKW K mg ρ H kws kvs) : RO K mg ρ H a (dicO kws) := by
  refine .dic (ks := kws.map (·.1)) (vs := kvs.map (·.2)) ?_ ?_ r.rws
  · rw [r.keys, zip_unzip]; exact h
  · rw [List.length_map, List.length_map]; exact r.len
theorem rw_dic {a : Addr} {kws : KW} {kvs : List (Key × V)} (h : Fx ρ H a (.dK kvs)) (r : RKW K mg ρ H kws kvs) : RW K mg ρ H (dicT kws) (.ref a) := by
  refine .dic (ks := kws.map (·.1)) (vs := kvs.map (·.2)) ?_ ?_ r.rws
  · rw [r.keys, zip_unzip]; exact h
  · rw [List.length_map, List.length_map]; exact r.len
end
def gDGet (d k : W) (S : Store) : Res W := match dicAt S d, keyW k with
  | some kws, some k => match valW kws k with
    | some w => .ok w S
    | none => .bad
  | _, _ => .bad
/-- d.get(k, x) -/
def gDGet2 (d k x : W) (S : Store) : Res W := match dicAt S d, keyW k with
  | some kws, some k => .ok ((valW kws k).getD x) S
  | _, _ => .bad
def mDGet2 (md mk mx : SM W) : SM W := fun s S => (md s S).bind fun d S1 => match dicAt S1 d with
  | some _ => (mk s S1).bind fun k S2 => (mx s S2).bind fun x S3 => gDGet2 d k x S3
  | none => .bad
def gDIn (neg : Bool) (k d : W) (S : Store) : Res W := match dicAt S d, keyW k with
  | some kws, some k => .ok (.bl (xorB neg (valW kws k).isSome)) S
  | _, _ => .bad
def gDPut (d k v : W) (S : Store) : Res Unit := match d, keyW k with
  | .ref l, some k => match dicL S l with
    | some kws => if kws.length < lim then .ok () (S.set l (dicO (putW kws k v))) else .bad
    | none => .bad
  | _, _ => .bad
def mDPut (md mk mv : SM W) : SS := fun s S => (mv s S).bind fun v S1 => (md s S1).bind fun d S2 => (mk s S2).bind fun k S3 => (gDPut d k v S3).bind fun _ S4 => .ok (.nx, s) S4
/-- {} that will be changed -/
def mDNewR : SM W := fun _ S => .ok (.ref S.length) (S ++ [dicO []])
section
variable {X : Cx} {E : XK} {pos pos' apos cpos : Pos} {o i e f value : Expr} {md mk mv mx : SM W}
theorem pm_dget (hu : X.A.units + 1 < cLine) (ho : PM X E o md) (hi : PM X E i mk) (hs : NoSl i := by exact fun _ _ => rfl) : PM X E (.Subscript o i pos) (mBin gDGet md mk) :=
  pe_imp (pe_dget hu ho hi hs) fun σ H Q h => tX.bind h fun ρ1 H1 w x s S1 rep env r out => ⟨ρ1, s, S1, rep, env, Out.bind out fun ρ2 H2 w2 x2 S2 e2 rep2 r2 o2 => by
    unfold gDGet at o2
    cases e1 : dicAt S2 w with
    | none => rw [e1] at o2; exact o2.elim
    | some kws =>
      cases e3 : keyW w2 with
      | none => rw [e1, e3] at o2; exact o2.elim
      | some k =>
        rw [e1, e3] at o2
        obtain ⟨a, kvs, rfl, ha, rk⟩ := dicAt_of rep2 (r.ext e2) e1
        have := keyW_of r2 e3
        subst this
        rcases rk.val (k := k) with ⟨h1, _⟩ | ⟨w', v', h1, h2, h3⟩
        · simp only [h1] at o2; exact o2.elim
        · simp only [h1] at o2
          exact ⟨a, v', rfl, by have := DGet.k (k := k) ha; rw [h2] at this; exact this, Out.here o2 rep2 h3⟩⟩
theorem pm_dget2 (hu : X.A.units + 1 < cLine) (ho : PM X E o md) (he : PM X E e mk) (hf : PM X E f mx) (m : M2 X o "get" apos e f cpos := by exact ⟨rfl, rfl, rfl, rfl⟩) : PM X E (.Call (.Attribute o "get" apos) [e, f] [] cpos) (mDGet2 md mk mx) :=
  pe_imp (pe_dget2 hu ho he hf m) fun σ H Q h => tX.bind h fun ρ1 H1 w x s S1 rep env r out => by
    cases e1 : dicAt S1 w with
    | none => rw [e1] at out; exact out.elim
    | some kws0 =>
      rw [e1] at out
      obtain ⟨a, kvs0, rfl, ha0, _⟩ := dicAt_of rep r e1
      refine ⟨a, rfl, .inl ⟨kvs0, .inl ha0⟩, ρ1, s, S1, rep, env, Out.bind out fun ρ2 H2 w2 x2 S2 e2 rep2 r2 o2 => ⟨ρ2, s, S2, rep2, env.ext e2, Out.bind o2 fun ρ3 H3 w3 x3 S3 e3 rep3 r3 o3 => ?_⟩⟩
      unfold gDGet2 at o3
      cases e4 : dicAt S3 w with
      | none => rw [e4] at o3; exact o3.elim
      | some kws =>
        cases e5 : keyW w2 with
        | none => rw [e4, e5] at o3; exact o3.elim
        | some k =>
          rw [e4, e5] at o3
          obtain ⟨a', kvs, ea, ha, rk⟩ := dicAt_of rep3 ((r.ext e2).ext e3) e4
          cases ea
          have := keyW_of r2 e5
          subst this
          rcases rk.val (k := k) with ⟨h1, h2⟩ | ⟨w', v', h1, h2, h3⟩
          · simp only [h1, Option.getD_none] at o3
            exact ⟨none, by have := DGet.k (k := k) ha; rw [h2] at this; exact this, Out.here o3 rep3 r3⟩
          · simp only [h1, Option.getD_some] at o3
            exact ⟨some v', by have := DGet.k (k := k) ha; rw [h2] at this; exact this, Out.here o3 rep3 h3⟩
theorem psm_dput (hu : X.A.units + 1 < cLine) (ho : PM X E o md) (hi : PM X E i mk) (hv : PM X E value mv) (hs : swapsWith value (some (.Subscript o i pos')) pos.line X.env = pure false := by rfl) : PSM X E (.Assign [.Subscript o i pos'] value pos) (mDPut md mk mv) :=
  ps_imp (ps_dput hu ho hi hv hs) fun D σ H h => tS.bind h fun ρ1 H1 w x s S1 rep env r out => ⟨ρ1, s, S1, rep, env, OutS.bind out fun ρ2 H2 w2 x2 S2 e2 rep2 r2 o2 => ⟨ρ2, s, S2, rep2, env.ext e2, OutS.bind o2 fun ρ3 H3 w3 x3 S3 e3 rep3 r3 o3 => by
    unfold gDPut at o3
    cases w2 with
    | ref l =>
      cases e5 : keyW w3 with
      | none => simp only [e5] at o3; exact o3.elim
      | some k =>
        simp only [e5] at o3
        cases e4 : dicL S3 l with
        | none => simp only [e4] at o3; exact o3.elim
        | some kws =>
          simp only [e4] at o3
          split at o3
          · rename_i hz
            have r2' := r2.ext e3
            obtain ⟨a, kvs, ea, ha, rk⟩ := dicAt_of (w := .ref l) rep3 r2' e4
            subst ea
            have := keyW_of r3 e5
            subst this
            cases r2' with
            | ref hl =>
              have hlen : kvs.length < sizeLine := by rw [← rk.len]; exact lim_lt hz
              refine ⟨a, _, rfl, DPut.k (v := x) ha hlen, ?_⟩
              have ma : a ∈ ρ3.r := List.mem_of_getElem? hl
              have ex : Ext ρ3 H3 ρ3 (upd H3 a (.dK (putK kvs k x))) := ⟨fun _ _ h => h, fun _ h => h, fun _ h => .inl h, fun b u hb n => by rw [upd_ne fun z : b = a => n (by rw [z]; exact ma)]; exact hb, fun _ h => .inl h, fun b _ hb => by
                by_cases hz : b = a
                · subst hz; rw [upd_same]; simp
                · rw [upd_ne hz]; exact hb⟩
              obtain ⟨e6, rep6⟩ := rep3.wr hl (o := .dK (putK kvs k x)) (u := dicO (putW kws k w)) (ro_dic upd_same ((rk.put ((r.ext e2).ext e3)).ext ex))
              exact OutS.nx (OutS.ext e6 o3) rep6 (((env.ext e2).ext e3).ext e6)
          · exact o3.elim
    | _ => exact o3.elim⟩⟩
theorem pm_dnewR : PM X E (.Dict [] [] pos) mDNewR := pe_imp pe_dnewK fun σ H Q ⟨ρ, s, S, rep, env, out⟩ p hp => out_new (u := dicO []) out rep hp fun e => ro_dic upd_same .nil
end
/-! ### d.update(e), list(d), dict(pairs) -/
def rDUpd : V → List V → Hp → VK → Prop := fun x xs H Q => ∃ (a b : Addr) (kvs mvs : List (Key × V)), x = .ref a ∧ xs = [.ref b] ∧ a ≠ b ∧ H a = some (.dK kvs) ∧ H b = some (.dK mvs) ∧ kvs.length + mvs.length ≤ sizeLine ∧ Q .non (upd H a (.dK (mergeK kvs mvs)))
theorem mt_dupd {X : Cx} : MtR X "dict.update" rDUpd := by
  intro pins s σ H x xs v us Q I rx rxs ⟨a, b, kvs, mvs, ex, exs, hne, ha, hb, hz, q⟩
  subst ex exs
  cases rx
  rw [Vals.ref1 rxs]
  obtain ⟨z, lo, vs, rel, dd⟩ := dk_of I.hok ha
  obtain ⟨z2, lo2, vs2, rel2, dd2⟩ := dk_of I.hok hb
  refine call_meetsIn PySem.F.slot_dict_update dd.typeIs PySem.F.entry_dict_update (PySem.F.args_dict_update_2 _ _) (meets_dict_update (mixKind X.prog X.w) a b hne lo2)
    ⟨vs, vs2, dd, dd2, by rw [← rel.length, ← rel2.length]; exact hz, fun h' hm _ hs => ?_⟩
  have he : ∃ q, h'.get? a = some q := let ⟨q, _, _, hq, _⟩ := hm; ⟨q, hq⟩
  have hlen : (mergeK kvs mvs).length ≤ sizeLine := Nat.le_trans (length_mergeK mvs kvs) hz
  exact ⟨.non, _, d_write (t' := s.toks) I (by rw [ha]; exact True.intro) hs he (dk_new hlen lo (KV.merge rel2 rel) hm), rfl, q⟩
def isRefTo (l : Nat) : W → Bool
  | .ref k => k == l
  | _ => false
def gDUpd (o : W) (ws : List W) (S : Store) : Res W := match o, ws with
  | .ref l, [w] => match dicL S l, dicAt S w with
    | some kws, some more => if isRefTo l w = false ∧ kws.length + more.length ≤ lim then .ok .non (S.set l (dicO (mergeW kws more))) else .bad
    | _, _ => .bad
  | _, _ => .bad
/-- it stands as a dict before the arguments are read -/
def gMetD (g : W → List W → Store → Res W) (mo : SM W) (mr : SM (List W)) : SM W := fun s S => (mo s S).bind fun o S1 => match dicAt S1 o with
  | some _ => (mr s S1).bind fun ws S2 => g o ws S2
  | none => .bad
section
variable {K : PySem.W.Frag} {mg : Str → Option Value} {ρ : RT} {H : Hp} {S : Store}
/-- a dict of the store and another one stand apart -/
theorem dic_apart {l : Nat} {w : W} {p b : Addr} {kws : KW} (rep : RepS K mg ρ H S) (hl : ρ.r[l]? = some p) (r : RW K mg ρ H w (.ref b)) (h : dicAt S w = some kws) (hn : isRefTo l w = false) : p ≠ b := by
  intro e
  subst e
  cases w with
  | dic ks ws => cases r with | dic hf _ _ => exact hf.2.1 (List.mem_of_getElem? hl)
  | ref k =>
    cases r with
    | ref hk =>
      obtain ⟨i1, e1⟩ := List.getElem?_eq_some_iff.mp hl
      obtain ⟨i2, e2⟩ := List.getElem?_eq_some_iff.mp hk
      have := (List.getElem_inj rep.nd).mp (e1.trans e2.symm)
      subst this
      simp [isRefTo] at hn
  | _ => cases h
end
section
variable {X : Cx} {E : XK} {o e : Expr} {es : List Expr} {mo : SM W} {mr : SM (List W)} {apos cpos : Pos}
theorem pm_dupd (ho : PM X E o mo) (ha : PAM X E (e :: es) mr)
    (hbase : attributeBase o "update" X.env (eval o X.env) = eval o X.env := by rfl)
    (hfew : ((backTo cpos (starEach (e :: es) X.env)).all (fun x => !x.1) && (backToKw cpos (keywordEach [] X.env)).all (fun x => x.1.isSome)
      && decide ((e :: es).length + ([] : List Keyword).length + (if ([] : List Keyword).isEmpty then 0 else 1) < 30)) = true := by rfl)
    (hline : (apos.endLine == cpos.line) = true := by rfl) (hs : starEach (e :: es) X.env = (false, eval e X.env) :: starEach es X.env := by rfl) (hplain : (backTo cpos (starEach es X.env)).any (·.1) = false := by rfl) :
    PM X E (.Call (.Attribute o "update" apos) (e :: es) [] cpos) (gMetD gDUpd mo mr) := by
  refine pe_imp (pe_bm PySem.F.plainAttrs_dict PySem.F.slot_dict_update PySem.F.type_dict_update mt_dupd ho ha hbase hfew hline hs hplain) fun σ H Q h => tX.bind h fun ρ1 H1 w x s S1 rep env rx out => ?_
  cases e1 : dicAt S1 w with
  | none => rw [e1] at out; exact out.elim
  | some kws0 =>
    rw [e1] at out
    obtain ⟨a, kvs0, rfl, ha0, _⟩ := dicAt_of rep rx e1
    refine ⟨.inr (.inr (.inl ⟨rfl, .inl ⟨kvs0, ha0⟩⟩)), ρ1, s, S1, rep, env, Out.bind out fun ρ2 H2 ws xs S2 e2 rep2 r2 o2 => ?_⟩
    have rx2 := rx.ext e2
    cases w with
    | ref l =>
      match ws, r2, o2 with
      | [], _, o2 => exact o2.elim
      | _ :: _ :: _, _, o2 => exact o2.elim
      | [u], r2, o2 =>
        obtain ⟨y, rfl, ru⟩ := r2.one
        dsimp only [gDUpd] at o2
        cases e4 : dicL S2 l with
        | none => simp only [e4] at o2; exact o2.elim
        | some kws =>
          cases e5 : dicAt S2 u with
          | none => simp only [e4, e5] at o2; exact o2.elim
          | some more =>
            simp only [e4, e5] at o2
            split at o2
            · rename_i hz
              obtain ⟨a', kvs, ea, ha, rk⟩ := dicAt_of (w := .ref l) rep2 rx2 e4
              cases ea
              obtain ⟨b, mvs, rfl, hb, rm⟩ := dicAt_of rep2 ru e5
              cases rx2 with
              | ref hl =>
                have hne := dic_apart rep2 hl ru e5 hz.1
                refine ⟨a, b, kvs, mvs, rfl, rfl, hne, ha, hb, by rw [← rk.len, ← rm.len]; exact lim_line hz.2, ?_⟩
                have ma : a ∈ ρ2.r := List.mem_of_getElem? hl
                have ex : Ext ρ2 H2 ρ2 (upd H2 a (.dK (mergeK kvs mvs))) := ⟨fun _ _ h => h, fun _ h => h, fun _ h => .inl h, fun b u hb n => by rw [upd_ne fun z : b = a => n (by rw [z]; exact ma)]; exact hb, fun _ h => .inl h, fun b _ hb => by
                  by_cases hz : b = a
                  · subst hz; rw [upd_same]; simp
                  · rw [upd_ne hz]; exact hb⟩
                obtain ⟨e6, rep6⟩ := rep2.wr hl (o := .dK (mergeK kvs mvs)) (u := dicO (mergeW kws more)) (ro_dic upd_same ((RKW.merge rm rk).ext ex))
                exact o2 ρ2 _ _ e6 rep6 .non
            · exact o2.elim
    | _ => exact o2.elim
/-- list(d), list(xs), list(t) -/
def gListD (w : W) (S : Store) : Res W := match seqA S w with
  | some ws => .ok (.lst ws) S
  | none => match dicAt S w with
    | some kws => .ok (.lst (kws.map fun kv => wKey kv.1)) S
    | none => .bad
theorem keys_rws {K : PySem.W.Frag} {mg : Str → Option Value} {ρ : RT} {H : Hp} : ∀ {kws : KW} {kvs : List (Key × V)}, RKW K mg ρ H kws kvs → RWs K mg ρ H (kws.map fun kv => wKey kv.1) (kvs.map fun kv => kV kv.1)
  | _, _, .nil => .nil
  | _, _, .cons (k := k) r t => .cons (wKey_rw k) (keys_rws t)
theorem cm_listD (hc : X.calm = true) : CallM X E (.type "list") (g1 gListD) := cm1 fun pins s σ H x us Q ρ S w I r rep rw o => by
  unfold gListD at o
  cases e : seqA S w with
  | some ws =>
    rw [e] at o
    obtain ⟨a, vs, rfl, hl, hr, _⟩ := seqA_of rep rw e
    exact call_list_of pins s σ H _ us Q I r ⟨a, vs, rfl, hl, fun p hp => out_lst o rep hp hr⟩
  | none =>
    rw [e] at o
    cases e1 : dicAt S w with
    | none => rw [e1] at o; exact o.elim
    | some kws =>
      rw [e1] at o
      obtain ⟨a, kvs, rfl, ha, rk⟩ := dicAt_of rep rw e1
      exact call_listD hc pins s σ H _ us Q I r ⟨a, kvs, rfl, .inl ha, fun p hp => out_lst o rep hp (keys_rws rk)⟩
/-- pairs (key, value) -/
def prW : W → Option (Key × W)
  | .tup [k, v] => (keyW k).map fun k => (k, v)
  | _ => none
def prsW : List W → Option KW
  | [] => some []
  | w :: r => match prW w, prsW r with
    | some p, some ps => some (p :: ps)
    | _, _ => none
def gDictP (w : W) (S : Store) : Res W := match (seqL S w).bind prsW with
  | some kws => .ok (dicT (mergeW [] kws)) S
  | none => .bad
theorem prsW_of {K : PySem.W.Frag} {mg : Str → Option Value} {ρ : RT} {H : Hp} : ∀ {ws : List W} {vs : List V} {kws : KW}, RWs K mg ρ H ws vs → prsW ws = some kws → ∃ (ps : List Addr) (kvs : List (Key × V)), vs = ps.map V.ref ∧ Paired (fun p kv => SqT K H p [kV kv.1, kv.2]) ps kvs ∧ RKW K mg ρ H kws kvs
  | _, _, _, .nil, h => by cases (Option.some.inj h : [] = _); exact ⟨[], [], rfl, .nil, .nil⟩
  | _, _, _, .cons (w := w) (v := v) (ws := ws) (vs := vs) r t, h => by
    unfold prsW at h
    cases e1 : prW w with
    | none => rw [e1] at h; cases h
    | some p =>
      cases e2 : prsW ws with
      | none => rw [e1, e2] at h; cases h
      | some ps =>
        rw [e1, e2] at h
        cases Option.some.inj h
        obtain ⟨as, kvs, rfl, h1, h2⟩ := prsW_of t e2
        cases w with
        | tup us =>
          match us, r, e1 with
          | [k, u], r, e1 =>
            cases e3 : keyW k with
            | none => simp [prW, e3] at e1
            | some k' =>
              simp [prW, e3] at e1
              subst e1
              cases r with
              | tup hf hr =>
                obtain ⟨v1, v2, rfl, r1, r2⟩ := hr.two
                have := keyW_of r1 e3
                subst this
                exact ⟨_ :: as, (k', v2) :: kvs, rfl, .cons (sqT_of hf) h1, .cons r2 h2⟩
          | [], _, e1 => cases e1
          | [_], _, e1 => cases e1
          | _ :: _ :: _ :: _, _, e1 => cases e1
        | _ => cases e1
theorem cm_dictP (hc : X.calm = true) : CallM X E (.type "dict") (g1 gDictP) := cm1 fun pins s σ H x us Q ρ S w I r rep rw o => by
  unfold gDictP at o
  cases e : seqL S w with
  | none => rw [e] at o; exact o.elim
  | some ws =>
    cases e1 : prsW ws with
    | none => simp only [e, Option.bind_some, e1] at o; exact o.elim
    | some kws =>
      simp only [e, Option.bind_some, e1] at o
      obtain ⟨a, vs, rfl, hl, hr⟩ := seqL_of rep rw e
      obtain ⟨ps, kvs, rfl, h1, h2⟩ := prsW_of hr e1
      exact call_dictP hc pins s σ H _ us Q I r ⟨a, ps, kvs, rfl, hl, h1, fun p hp => out_tree o rep hp fun e f => rw_dic f ((RKW.merge h2 .nil).ext e)⟩
end
/-! ### displays -/
abbrev RPr (K : PySem.W.Frag) (mg : Str → Option Value) : Rl (List (V × V)) (List (W × W)) := fun ρ H ws vs => RWs K mg ρ H (ws.map (·.1)) (vs.map (·.1)) ∧ RWs K mg ρ H (ws.map (·.2)) (vs.map (·.2))
def PPsM (X : Cx) (E : XK) (pos : Pos) (keys : List (Option Expr)) (values : List Expr) (m : SM (List (W × W))) : Prop := ∃ trs, PPs X pos keys values trs ∧ ∀ σ H Q, tX X.K X.mg (RPr X.K X.mg) E m σ H Q → tPairs trs σ H Q
def mPNil : SM (List (W × W)) := fun _ S => .ok [] S
def mPCons (mk mv : SM W) (mr : SM (List (W × W))) : SM (List (W × W)) := fun s S => (mk s S).bind fun k S1 => (mv s S1).bind fun v S2 => (mr s S2).bind fun r S3 => .ok ((k, v) :: r) S3
def kwsOf : List (W × W) → Option KW
  | [] => some []
  | (k, v) :: r => match keyW k, kwsOf r with
    | some k, some ks => some ((k, v) :: ks)
    | _, _ => none
def gDisp (ps : List (W × W)) (S : Store) : Res W := match kwsOf ps with
  | some kws => if kws.length ≤ 15 then .ok (dicT (mergeW [] kws)) S else .bad
  | none => .bad
def mDisp (m : SM (List (W × W))) : SM W := fun s S => (m s S).bind gDisp
section
variable {X : Cx} {E : XK} {pos : Pos} {k v : Expr} {keys : List (Option Expr)} {values : List Expr} {mk mv : SM W} {mr : SM (List (W × W))}
theorem ppm_nil : PPsM X E pos [] [] mPNil := ⟨[], pps_nil, fun σ H Q ⟨ρ, s, S, rep, env, o⟩ => Out.here o rep ⟨.nil, .nil⟩⟩
theorem ppm_cons (hk : PM X E k mk) (hv : PM X E v mv) (hr : PPsM X E pos keys values mr) : PPsM X E pos (some k :: keys) (v :: values) (mPCons mk mv mr) := by
  obtain ⟨trs, h1, h2⟩ := hr
  refine ⟨_, pps_cons hk hv h1, fun σ H Q h => ?_⟩
  show tE X E mk σ H fun _ _ => _
  refine tX.bind (R' := RPr X.K X.mg) h fun ρ1 H1 w x s S1 rep env r out => ?_
  refine ⟨ρ1, s, S1, rep, env, Out.bind out fun ρ2 H2 w2 x2 S2 e2 rep2 r2 o2 => ?_⟩
  refine h2 _ _ _ ⟨ρ2, s, S2, rep2, env.ext e2, Out.bind o2 fun ρ3 H3 ws vs S3 e3 rep3 r3 o3 => ?_⟩
  exact Out.here o3 rep3 ⟨.cons ((r.ext e2).ext e3) r3.1, .cons (r2.ext e3) r3.2⟩
theorem kwsOf_of {K : PySem.W.Frag} {mg : Str → Option Value} {ρ : RT} {H : Hp} : ∀ {ps : List (W × W)} {vs : List (V × V)} {kws : KW}, RWs K mg ρ H (ps.map (·.1)) (vs.map (·.1)) → RWs K mg ρ H (ps.map (·.2)) (vs.map (·.2)) → kwsOf ps = some kws → ∃ kvs : List (Key × V), vs = kvs.map (fun kv => (kV kv.1, kv.2)) ∧ RKW K mg ρ H kws kvs
  | [], [], kws, _, _, h => by cases (Option.some.inj h : [] = kws); exact ⟨[], rfl, .nil⟩
  | [], _ :: _, _, r, _, _ => by simp at r; cases r
  | _ :: _, [], _, r, _, _ => by simp at r; cases r
  | (k, w) :: ps, (y, v) :: vs, kws, r1, r2, h => by
    rw [List.map_cons, List.map_cons] at r1 r2
    cases r1 with
    | cons a1 t1 =>
      cases r2 with
      | cons a2 t2 =>
        unfold kwsOf at h
        cases e1 : keyW k with
        | none => rw [e1] at h; cases h
        | some k' =>
          cases e2 : kwsOf ps with
          | none => rw [e1, e2] at h; cases h
          | some ks =>
            rw [e1, e2] at h
            cases Option.some.inj h
            obtain ⟨kvs, rfl, rk⟩ := kwsOf_of t1 t2 e2
            have : y = kV k' := keyW_of a1 e1
            subst this
            exact ⟨(k', v) :: kvs, rfl, .cons a2 rk⟩
/-- {k: v, ..} -/
theorem pm_disp (h : PPsM X E pos keys values mr) (hall : keys.all (·.isSome) = true := by rfl) (hl : keys.length = values.length := by rfl) (h0 : keys ≠ [] := by exact fun z => by cases z) (h15 : keys.length ≤ 15 := by decide) : PM X E (.Dict keys values pos) (mDisp mr) := by
  obtain ⟨trs, h1, h2⟩ := h
  refine pe_imp (pe_disp h1 hall hl h0 h15) fun σ H Q ⟨ρ, s, S, rep, env, out⟩ p hp => ?_
  obtain ⟨e0, rep0⟩ := rep.more (o := .dK []) hp
  have np := rep.fresh hp
  refine h2 _ _ _ ⟨⟨ρ.r, p :: ρ.t⟩, s, S, rep0, env.ext e0, ?_⟩
  unfold mDisp at out
  cases em : mr s S with
  | bad => rw [em] at out; exact out.elim
  | exc c ns ws S1 => rw [em] at out; exact ExcOut.ext e0 out
  | ok ps S1 =>
    rw [em] at out
    intro ρ1 H1 vs e1 rep1 r1
    have out : Out X.K X.mg (RW X.K X.mg) E ρ H (gDisp ps S1) Q := out
    unfold gDisp at out
    cases ek : kwsOf ps with
    | none => rw [ek] at out; exact out.elim
    | some kws =>
      rw [ek] at out
      dsimp only at out
      split at out
      · rename_i hz
        obtain ⟨kvs, rfl, rk⟩ := kwsOf_of r1.1 r1.2 ek
        have hd : H1 p = some (.dK []) := e1.keep p _ upd_same np.1
        have hpt : p ∈ ρ1.t := e1.sub p List.mem_cons_self
        have hsub : ∀ b, b ∈ ρ.t → b ∈ ρ1.t := fun b m => e1.sub b (List.mem_cons_of_mem _ m)
        have nr : p ∉ ρ1.r := (rep1.tk p hpt).2
        refine ⟨hd, kvs, rfl, by rw [← rk.len]; exact hz, ?_⟩
        have e01 := e0.trans e1
        have rep2 : RepS X.K X.mg ⟨ρ1.r, ρ.t⟩ (upd H1 p (.dK (mergeK [] kvs))) S1 := (rep1.flux hpt).less hsub
        have rk2 : RKW X.K X.mg ⟨ρ1.r, ρ.t⟩ (upd H1 p (.dK (mergeK [] kvs))) kws kvs := rk.map fun r => (r.flux hpt).less hsub
        exact out ⟨ρ1.r, ρ.t⟩ _ (.ref p) ⟨e01.pre, fun _ h => h, fun _ h => .inl h, fun b o hb n => by rw [upd_ne (ne_of_none hb hp)]; exact e01.keep b o hb n, e01.new, fun b m hb => by
          by_cases z : b = p
          · subst z; rw [upd_same]; simp
          · rw [upd_ne z]; exact e01.still b m hb⟩ rep2 (rw_dic ⟨upd_same, nr, np.2⟩ (RKW.merge rk2 .nil))
      · exact out.elim
end
end RL
end

section
set_option maxRecDepth 100000
set_option maxHeartbeats 4000000
namespace OrdX
open PySem PySem.Spec PyProof.Rows
def ltN : List Nat → List Nat → Bool
  | [], [] => false
  | [], _ :: _ => true
  | _ :: _, [] => false
  | a :: r, b :: q => decide (a < b) || (decide (a = b) && ltN r q)
theorem totN : Tot ltN where
  irr := fun a => by induction a with
    | nil => rfl
    | cons x r ih => simp [ltN, ih]
  tr := fun a b c h1 h2 => by
    induction a generalizing b c with
    | nil => cases b with
      | nil => cases h1
      | cons y q => cases c with
        | nil => cases h2
        | cons z s => rfl
    | cons x r ih => cases b with
      | nil => cases h1
      | cons y q => cases c with
        | nil => cases h2
        | cons z s =>
          simp only [ltN, Bool.or_eq_true, decide_eq_true_eq, Bool.and_eq_true] at h1 h2 ⊢
          rcases h1 with h1 | ⟨h1, h1'⟩ <;> rcases h2 with h2 | ⟨h2, h2'⟩
          · left; omega
          · left; omega
          · left; omega
          · right; exact ⟨by omega, ih q s h1' h2'⟩
  tri := fun a b h => by
    induction a generalizing b with
    | nil => cases b with
      | nil => exact absurd rfl h
      | cons y q => exact .inl rfl
    | cons x r ih => cases b with
      | nil => exact .inr rfl
      | cons y q =>
        simp only [ltN, Bool.or_eq_true, decide_eq_true_eq, Bool.and_eq_true]
        rcases Nat.lt_trichotomy x y with k | k | k
        · exact .inl (.inl k)
        · subst k
          have : r ≠ q := fun e => h (by rw [e])
          rcases ih q this with k | k
          · exact .inl (.inr ⟨rfl, k⟩)
          · exact .inr (.inr ⟨rfl, k⟩)
        · exact .inr (.inl k)
theorem ltCps_eq : ∀ a b : List Nat, ltCps a b = ltN a b
  | [], [] => rfl
  | [], _ :: _ => rfl
  | _ :: _, [] => rfl
  | a :: r, b :: q => by
    have ih := ltCps_eq r q
    simp only [ltCps, ltN, ih]
    try (by_cases h1 : a < b <;> by_cases h2 : a = b <;> simp [h1, h2] <;> omega)
def ltS (x y : Str) : Bool := ltN x.cps.toList y.cps.toList
theorem totS : Tot ltS where
  irr := fun a => totN.irr _
  tr := fun a b c => totN.tr _ _ _
  tri := fun a b h => totN.tri _ _ fun e => h (by
    cases a; cases b
    simp only [Str.mk.injEq] at h ⊢
    exact (Array.toList_inj.mp e))
theorem sortedS_pw : ∀ {l : List Str}, sortedS l = true → l.Pairwise fun a b => ltS b a = false
  | [], _ => .nil
  | x :: r, h => by
    have h : risingS x r = true := h
    have go : ∀ (r : List Str) (x : Str), risingS x r = true → (x :: r).Pairwise fun a b => ltS b a = false := by
      intro r
      induction r with
      | nil => intro x _; exact List.pairwise_singleton _ _
      | cons y r ih =>
        intro x h
        simp only [risingS, Bool.and_eq_true, Bool.not_eq_true', ltCps_eq] at h
        have h1 : ltS y x = false := h.1
        have pw := ih y h.2
        refine List.pairwise_cons.mpr ⟨fun z hz => ?_, pw⟩
        rcases List.mem_cons.mp hz with rfl | hz
        · exact h1
        · have h2 := (List.pairwise_cons.mp pw).1 z hz
          cases e : ltS z x with
          | false => rfl
          | true =>
            by_cases hxy : y = x
            · subst hxy; rw [h2] at e; cases e
            · rcases totS.tri y x hxy with k | k
              · rw [h1] at k; cases k
              · have := totS.tr _ _ _ e k; rw [h2] at this; cases this
    exact go r x h
end OrdX
namespace RL
open PySem PySem.Spec L2 OrdX
open PyProof.Rows hiding St
/-! ### sorted(xs) of texts, max, sum -/
def gSrtS (w : W) (S : Store) : Res W := match (seqL S w).bind strsW with
  | some xs => if xs.length < 64 then .ok (.lst ((srt ltS xs).map .str)) S else .bad
  | none => .bad
/-- .. that will be changed -/
def gSrtSR (w : W) (S : Store) : Res W := match (seqL S w).bind strsW with
  | some xs => if xs.length < 64 then .ok (.ref S.length) (S ++ [.lst ((srt ltS xs).map .str)]) else .bad
  | none => .bad
def gMax (w : W) (S : Store) : Res W := match (seqL S w).bind intsW with
  | some (n :: r) => .ok (.int (r.foldl max n)) S
  | _ => .bad
def gSum (w : W) (S : Store) : Res W := match (seqL S w).bind intsW with
  | some ns => .ok (.int ns.sum) S
  | none => .bad
theorem foldl_max_le : ∀ (r : List Int) (n : Int), n ≤ r.foldl max n ∧ ∀ y ∈ r, y ≤ r.foldl max n
  | [], n => ⟨Int.le_refl _, nofun⟩
  | x :: r, n => by
    obtain ⟨h1, h2⟩ := foldl_max_le r (max n x)
    rw [List.foldl_cons]
    refine ⟨by omega, fun y hy => ?_⟩
    rcases List.mem_cons.mp hy with rfl | hy
    · omega
    · exact h2 y hy
theorem foldl_max_mem : ∀ (r : List Int) (n : Int), r.foldl max n ∈ n :: r
  | [], n => List.mem_cons_self
  | x :: r, n => by
    rw [List.foldl_cons]
    rcases List.mem_cons.mp (foldl_max_mem r (max n x)) with h | h
    · rcases Int.le_total n x with z | z
      · rw [h, show max n x = x by omega]; simp
      · rw [h, show max n x = n by omega]; simp
    · exact List.mem_cons_of_mem _ (List.mem_cons_of_mem _ h)
section
variable {X : Cx} {E : XK}
theorem strsW_at {K : PySem.W.Frag} {mg : Str → Option Value} {ρ : RT} {H : Hp} {S : Store} {w : W} {x : V} {xs : List Str} (rep : RepS K mg ρ H S) (r : RW K mg ρ H w x) (h : (seqL S w).bind strsW = some xs) : ∃ a, x = .ref a ∧ SqL K H a (xs.map V.str) := by
  cases e : seqL S w with
  | none => rw [e] at h; cases h
  | some ws =>
    rw [e] at h
    obtain ⟨a, vs, rfl, hl, hr⟩ := seqL_of rep r e
    rw [strsW_of hr h] at hl
    exact ⟨a, rfl, hl⟩
theorem intsW_at {K : PySem.W.Frag} {mg : Str → Option Value} {ρ : RT} {H : Hp} {S : Store} {w : W} {x : V} {ns : List Int} (rep : RepS K mg ρ H S) (r : RW K mg ρ H w x) (h : (seqL S w).bind intsW = some ns) : ∃ a, x = .ref a ∧ SqL K H a (ns.map V.int) := by
  cases e : seqL S w with
  | none => rw [e] at h; cases h
  | some ws =>
    rw [e] at h
    obtain ⟨a, vs, rfl, hl, hr⟩ := seqL_of rep r e
    have := intsW_of (show intsW ws = some ns from h)
    subst this
    rw [rws_ints hr] at hl
    exact ⟨a, rfl, hl⟩
theorem cm_srtS : CallM X E (.builtin "sorted") (g1 gSrtS) := cm1 fun pins s σ H x us Q ρ S w I r rep rw' o => by
  unfold gSrtS at o
  cases e : (seqL S w).bind strsW with
  | none => rw [e] at o; exact o.elim
  | some xs =>
    rw [e] at o
    dsimp only at o
    split at o
    · rename_i hz
      obtain ⟨a, rfl, hl⟩ := strsW_at rep rw' e
      refine cr_sortedS pins s σ H _ us Q I r ⟨a, xs, rfl, hl, hz, fun ys p pm hs hp => ?_⟩
      have eq : ys = srt ltS xs := srt_eq totS pm (sortedS_pw hs)
      subst eq
      exact out_lst o rep hp (strs_rws _)
    · exact o.elim
theorem cm_srtSR : CallM X E (.builtin "sorted") (g1 gSrtSR) := cm1 fun pins s σ H x us Q ρ S w I r rep rw' o => by
  unfold gSrtSR at o
  cases e : (seqL S w).bind strsW with
  | none => rw [e] at o; exact o.elim
  | some xs =>
    rw [e] at o
    dsimp only at o
    split at o
    · rename_i hz
      obtain ⟨a, rfl, hl⟩ := strsW_at rep rw' e
      refine cr_sortedS pins s σ H _ us Q I r ⟨a, xs, rfl, hl, hz, fun ys p pm hs hp => ?_⟩
      have eq : ys = srt ltS xs := srt_eq totS pm (sortedS_pw hs)
      subst eq
      exact out_new o rep hp fun e => .lst upd_same (strs_rws _)
    · exact o.elim
theorem cm_max (hc : X.calm = true) : CallM X E (.builtin "max") (g1 gMax) := cm1 fun pins s σ H x us Q ρ S w I r rep rw' o => by
  unfold gMax at o
  cases e : (seqL S w).bind intsW with
  | none => rw [e] at o; exact o.elim
  | some ns =>
    cases ns with
    | nil => rw [e] at o; exact o.elim
    | cons n q =>
      rw [e] at o
      obtain ⟨a, rfl, hl⟩ := intsW_at rep rw' e
      refine cr_max hc pins s σ H _ us Q I r ⟨a, n :: q, rfl, hl, Nat.succ_pos _, fun m h1 h2 => ?_⟩
      have eq : m = q.foldl max n := by
        have := h2 _ (foldl_max_mem q n)
        have h3 := foldl_max_le q n
        rcases List.mem_cons.mp h1 with rfl | h1
        · omega
        · have := h3.2 m h1; omega
      subst eq
      exact Out.here o rep (.int _)
theorem cm_sum (hc : X.calm = true) : CallM X E (.builtin "sum") (g1 gSum) := cm1 fun pins s σ H x us Q ρ S w I r rep rw' o => by
  unfold gSum at o
  cases e : (seqL S w).bind intsW with
  | none => rw [e] at o; exact o.elim
  | some ns =>
    rw [e] at o
    obtain ⟨a, rfl, hl⟩ := intsW_at rep rw' e
    exact cr_sum hc pins s σ H _ us Q I r ⟨a, ns, rfl, hl, Out.here o rep (.int _)⟩
end
/-! ### f-strings -/
def mFmt (m : SM W) : SM W := fun s S => (m s S).bind fun w S1 => match w with
  | .str y => if y.length ≤ lim then .ok (.str y) S1 else .bad
  | _ => .bad
def mJs : List (SM W) → Str → SM W
  | [], acc => fun _ S => .ok (.str acc) S
  | m :: ms, acc => fun s S => (m s S).bind fun w S1 => match w with
    | .str y => if (acc ++ y).length ≤ lim then mJs ms (acc ++ y) s S1 else .bad
    | _ => .bad
def mJoined (ms : List (SM W)) : SM W := mJs ms Str.empty
inductive PJM (X : Cx) (E : XK) : List Expr → List (SM W) → Prop where
  | nil : PJM X E [] []
  | cons {e : Expr} {m : SM W} {es : List Expr} {ms : List (SM W)} (h : PM X E e m) (r : PJM X E es ms) : PJM X E (e :: es) (m :: ms)
section
variable {X : Cx} {E : XK} {pos : Pos} {e v1 v2 : Expr} {m : SM W} {ms : List (SM W)} {rest es : List Expr}
theorem pm_fmt (h : PM X E e m) : PM X E (.FormattedValue e (-1) none pos) (mFmt m) := pe_imp (pe_fmt h) fun σ H Q q => tX.bind q fun ρ1 H1 w x s S1 rep env r o => by
  cases w with
  | str y =>
    have o : Out X.K X.mg (RW X.K X.mg) E ρ1 H1 (if y.length ≤ lim then Res.ok (W.str y) S1 else Res.bad) Q := o
    split at o
    · rename_i hz
      cases r
      exact .inl ⟨y, rfl, lim_line hz, Out.here o rep (.str _)⟩
    · exact o.elim
  | _ => exact o.elim
theorem PJM.pj : ∀ {es : List Expr} {ms : List (SM W)}, PJM X E es ms → PJ X es (ms.map fun m => tE X E m)
  | _, _, .nil => .nil
  | _, _, .cons h r => .cons h r.pj
theorem js_of : ∀ (ms : List (SM W)) (acc : Str) (σ : L2.St) (H : Hp) (Q : VK), tE X E (mJs ms acc) σ H Q → tJs (ms.map fun m => tE X E m) acc σ H fun out H1 => Q (.str out) H1
  | [], acc, σ, H, Q, ⟨ρ, s, S, rep, env, o⟩ => Out.here o rep (.str _)
  | m :: ms, acc, σ, H, Q, h => tX.bind h fun ρ1 H1 w x s S1 rep env r o => by
    cases w with
    | str y =>
      have o : Out X.K X.mg (RW X.K X.mg) E ρ1 H1 (if (acc ++ y).length ≤ lim then mJs ms (acc ++ y) s S1 else Res.bad) Q := o
      split at o
      · rename_i hz
        cases r
        exact ⟨y, rfl, lim_line hz, js_of ms (acc ++ y) σ H1 Q ⟨ρ1, s, S1, rep, env, o⟩⟩
      · exact o.elim
    | _ => exact o.elim
theorem pm_joined (h : PJM X E (v1 :: v2 :: rest) ms) : PM X E (.JoinedStr (v1 :: v2 :: rest) pos) (mJoined ms) := pe_imp (pe_joined h.pj) fun σ H Q q => js_of ms Str.empty σ H Q q
theorem pm_joined1 (h : PM X E e m) : PM X E (.JoinedStr [e] pos) m := pe_joined1 h
/-! ### *e in an argument list or a display -/
def mStar (m : SM W) (mr : SM (List W)) : SM (List W) := fun s S => (m s S).bind fun w S1 => match seqA S1 w with
  | some ws => (mr s S1).bind fun us S2 => .ok (ws ++ us) S2
  | none => .bad
theorem pam_star {p : Pos} {mr : SM (List W)} (h : PM X E e m) (hr : PAM X E es mr) (hs : starEach (.Starred e p :: es) X.env = (true, eval e X.env) :: starEach es X.env := by rfl) : PAM X E (.Starred e p :: es) (mStar m mr) :=
  pa_imp (StX.pa_star h hr hs) fun σ H Q q => tX.bind q fun ρ1 H1 w x s S1 rep env r o => by
    cases e1 : seqA S1 w with
    | none => rw [e1] at o; exact o.elim
    | some ws =>
      rw [e1] at o
      obtain ⟨a, vs, rfl, hl, hr, _⟩ := seqA_of rep r e1
      refine ⟨a, vs, rfl, hl.symm, ρ1, s, S1, rep, env, Out.bind o fun ρ2 H2 us xs S2 e2 rep2 r2 o2 => Out.here o2 rep2 ((hr.ext e2).append r2)⟩
end
/-! ### what is never reached -/
def mNever : SS := fun _ _ => .bad
theorem psm_never {X : Cx} {E : XK} {st : Stmt} : PSM X E st mNever := ⟨fun pins s σ H D I ⟨_, _, _, _, _, o⟩ => o.elim⟩
theorem pssm_never {X : Cx} {E : XK} {st : List Stmt} : PSsM X E st mNever := ⟨fun pins s σ H D I ⟨_, _, _, _, _, o⟩ => o.elim⟩
/-! ### a module's dict of texts, read -/
def KDTab (K : PySem.W.Frag) (mg : Str → Option Value) (w : World) (x : Str) (tab : List (Str × Str)) : Prop := ∃ p, mg x = some (.ref p) ∧ ∀ k v, tab.lookup k = some v → KDct K w p k (.str v)
def mCDict (tab : List (Str × Str)) (mi : SM W) : SM W := fun s S => (mi s S).bind fun k S1 => match k with
  | .str z => match tab.lookup z with
    | some v => .ok (.str v) S1
    | none => .bad
  | _ => .bad
section
variable {X : Cx} {E : XK} {pos p : Pos} {i : Expr} {mi : SM W} {x : Str} {tab : List (Str × Str)}
theorem pm_cdict (T : KDTab X.K X.mg X.w x tab) (hi : PM X E i mi) (hg : Gl X x := by rfl) (hd : (x == ("__debug__" : Str)) = false := by decide +kernel) (hs : PlainIx i := by exact fun _ _ => rfl) : PM X E (.Subscript (.Name x p) i pos) (mCDict tab mi) := by
  obtain ⟨a, hm, ht⟩ := T
  refine pe_imp (pe_ix ix_kdict (pe_glob (v := .ref a) hg hm rfl hd) hi hs) fun σ H Q q => ?_
  show (fun y H1 => _) (V.ref a) H
  refine tX.bind q fun ρ1 H1 w y s S1 rep env r o => ?_
  cases w with
  | str z =>
    cases e : tab.lookup z with
    | none => simp only [e] at o; exact o.elim
    | some v =>
      simp only [e] at o
      cases r
      exact ⟨a, z, .str v, rfl, rfl, ht z v e, Out.here o rep (.str _)⟩
  | _ => exact o.elim
end
end RL
end

section
set_option maxRecDepth 100000
set_option maxHeartbeats 4000000
namespace PySem.W
open PySem PySem.Calls PyProof.Rows
section
variable {prog : Program} {w : World} {A : Around} {E : Value → Shared → Prop} {s : Shared} {K : Frag} {x C L f g : Addr} {h₀ : Heap} {m : Str → Option Value} {ox : Obj} {od : Option Obj} {T : String}
/-- a op x where only x's class has the operator (the reflected one) -/
theorem rm_rbinT {op : Operator} {a : Value} {Q : Value → Shared → Prop} (F : Fr h₀ L s.heap m) (X₀ : K.In h₀) (I : InstAt s.heap x ox C od) (ha : typeOf a = pure (.type T)) (hc : selfFirst K C = true)
    (hs : findIn K (.ref C) (PySem.dunder op.info.2) = some (some (.ref g))) (hr : findIn K (.ref C) (dunderR op.info.2) = some (some (.ref f))) (hf : isFn K (.ref f) = true)
    (h1 : findIn K (.type T) (PySem.dunder op.info.2) = some none) (h2 : findIn K (.type T) (dunderR op.info.2) = some none)
    (h : wpAny (model prog w) A (call (.ref f) [.ref x, a]) (CmpBack Q) E s) : wpAny (model prog w) A (binaryOp op a (.ref x)) Q E s := by
  have X := X₀.keeps F.keep
  obtain ⟨cd, rest, hcd, hm⟩ := ksp_first hc
  rcases hi : op.info with ⟨sym, nm'⟩
  rw [hi] at hs hr h1 h2
  dsimp only at hs hr h1 h2
  have one := ksp_try X I hr hf h
  obtain ⟨hh, gg, d, tt, os⟩ := s
  have L1 : Looks (model prog w) hh (typeOf (.ref x)) (.ref C) := I.type
  have L2 : Looks (model prog w) hh (typeOf a) (.type T) := Looks.of_pure ha
  have L3 : Looks (model prog w) hh (fillsNumberSlot (.ref C) nm') true := fills_K X hcd hm hs
  have L4 : Looks (model prog w) hh (fillsNumberSlot (.type T) nm') false := ksp_fillsT X h1 h2
  have hne : (Value.type T == Value.ref C) = false := Bool.eq_false_iff.mpr fun q => by cases beq_iff_eq.mp q
  simp only [binaryOp, hi]
  refine wpAny_holding (wpAny_bind ?_)
  unfold binaryOp1
  refine wpAny_bind (L2.at (wpAny_bind (L1.at (wpAny_bind (L4.at ?_)))))
  simp only [hne, Bool.false_eq_true, if_false]
  repeat ((fail_if_success (with_reducible show wpAny _ _ (tryMethod _ _ _) _ _ _)); lk)
  refine wpAny_mono one (fun r s' hr' => ?_) fun _ _ e => e
  obtain ⟨v, rfl, hq⟩ := hr'
  repeat ((fail_if_success (with_reducible show wpAny _ _ (tryMethod _ _ _) _ _ _)); lk)
  exact hq
end
end PySem.W
namespace RL
open PySem PySem.Spec L2 OrdX
open PyProof.Rows hiding St
/-! ### instances -/
def insAt (S : Store) : W → Option (Str × List Str × List W)
  | .ins c ns ws => some (c, ns, ws)
  | .ref l => match S[l]? with
    | some (.ins c ns ws) => some (c, ns, ws)
    | _ => none
  | _ => none
section
variable {K : PySem.W.Frag} {mg : Str → Option Value} {ρ ρ' : RT} {H H' : Hp} {S : Store}
theorem insAt_of {w : W} {x : V} {c : Str} {ns : List Str} {ws : List W} (rep : RepS K mg ρ H S) (r : RW K mg ρ H w x) (h : insAt S w = some (c, ns, ws)) : ∃ a C dx vs, x = .ref a ∧ mg c = some (.ref C) ∧ H a = some (.ins C dx (ns.zip vs)) ∧ ns.length = vs.length ∧ RWs K mg ρ H ws vs := by
  cases w with
  | ins c' ns' ws' => cases h; cases r with | ins hc hf hl hr => exact ⟨_, _, _, _, rfl, hc, hf.1, hl, hr⟩
  | ref l =>
    cases r with
    | @ref l p hl =>
      cases e : S[l]? with
      | none => simp [insAt, e] at h
      | some ob =>
        obtain ⟨a, h1, h2⟩ := rep.ob l _ e
        rw [hl] at h1; cases h1
        cases h2 with
        | ins hc h3 h4 h5 =>
          simp [insAt, e] at h
          obtain ⟨rfl, rfl, rfl⟩ := h
          exact ⟨_, _, _, _, rfl, hc, h3, h4, h5⟩
        | _ => simp [insAt, e] at h
  | _ => cases h
theorem lookup_rws {f : Str} {w : W} : ∀ {ns : List Str} {ws : List W} {vs : List V}, RWs K mg ρ H ws vs → (ns.zip ws).lookup f = some w → ∃ v, (ns.zip vs).lookup f = some v ∧ RW K mg ρ H w v
  | [], _, _, _, h => by simp at h
  | n :: ns, _, _, .nil, h => by simp at h
  | n :: ns, _, _, .cons r t, h => by
    rw [List.zip_cons_cons, List.lookup_cons] at h ⊢
    cases e : f == n with
    | true => rw [e] at h; cases h; exact ⟨_, rfl, r⟩
    | false => rw [e] at h; exact lookup_rws t h
theorem lookup_not {f : Str} : ∀ {ns : List Str} {vs : List V}, ns.contains f = false → (ns.zip vs).lookup f = none
  | [], _, _ => by simp
  | n :: ns, [], _ => by simp
  | n :: ns, v :: vs, h => by
    rw [List.contains_cons, Bool.or_eq_false_iff] at h
    rw [List.zip_cons_cons, List.lookup_cons, h.1]
    exact lookup_not h.2
end
/-! ### o.f -/
def FldT (K : PySem.W.Frag) (mg : Str → Option Value) (c f : Str) : Prop := ∃ C, mg c = some (.ref C) ∧ Cls K C ∧ NoAttr K C f
def gFld (c f : Str) (w : W) (S : Store) : Res W := match insAt S w with
  | some (c', ns, ws) => if c' = c then (match (ns.zip ws).lookup f with
    | some v => .ok v S
    | none => .bad) else .bad
  | none => .bad
section
variable {X : Cx} {E : XK} {pos apos : Pos} {e o : Expr} {es : List Expr} {ma mo : SM W} {mr : SM (List W)} {c f m : Str} {n k k' : Nat}
theorem pm_fld (T : FldT X.K X.mg c f) (he : PM X E e ma) (hb : attributeBase e f X.env (eval e X.env) = eval e X.env := by rfl) : PM X E (.Attribute e f pos) (mUn (gFld c f) ma) :=
  pe_imp (pe_fld he hb) fun σ H Q h => tX.bind (m := ma) (k := fun w s S => gFld c f w S) h fun ρ1 H1 w x s S1 rep env r o => by
    obtain ⟨C, hC, hc, hn⟩ := T
    unfold gFld at o
    cases e1 : insAt S1 w with
    | none => rw [e1] at o; exact o.elim
    | some p =>
      obtain ⟨c', ns, ws⟩ := p
      rw [e1] at o
      dsimp only at o
      split at o
      · rename_i hcc
        subst hcc
        cases e2 : (ns.zip ws).lookup f with
        | none => rw [e2] at o; exact o.elim
        | some v =>
          rw [e2] at o
          obtain ⟨a, C', dx, vs, rfl, hm, ha, hl, hr⟩ := insAt_of rep r e1
          rw [hC] at hm; cases hm
          obtain ⟨v', h1, h2⟩ := lookup_rws hr e2
          exact ⟨a, C, dx, _, v', rfl, ha, hc, hn, h1, Out.here o rep h2⟩
      · exact o.elim
end
theorem Out.monoQ {K : PySem.W.Frag} {mg : Str → Option Value} {α β : Type} {R : Rl β α} {E : XK} {ρ : RT} {H : Hp} {r : Res α} {Q Q' : β → Hp → Prop} (h : Out K mg R E ρ H r Q) (f : ∀ v H, Q v H → Q' v H) : Out K mg R E ρ H r Q' := by
  cases r with
  | ok w S => exact fun ρ1 H1 v e rep rr => f _ _ (h ρ1 H1 v e rep rr)
  | exc c ns ws S => exact h
  | bad => exact h
/-! ### methods -/
/-- a method of the class c that is worth g -/
def MeE (P : Program) (w : World) (K : PySem.W.Frag) (mg : Str → Option Value) (base : Heap) (k : Nat) (c m q : Str) (st : Stmt) (ps : List Str) (g : Fn) : Prop :=
  ∃ C f fd, mg c = some (.ref C) ∧ Cls K C ∧ Meth K C m f ∧ Fun K m q st f fd ∧ Binds K fd ps [] ∧ FnM P w K mg base k f fd ps ps.length g
def MTx (K : PySem.W.Frag) (mg : Str → Option Value) (c m q : Str) (st : Stmt) (ps : List Str) : Prop := ∃ C f fd, mg c = some (.ref C) ∧ Cls K C ∧ Meth K C m f ∧ Fun K m q st f fd ∧ Binds K fd ps []
def mMeth (c m : Str) (g : Fn) (mo : SM W) (mr : SM (List W)) : SM W := fun s S => (mo s S).bind fun w S1 => match insAt S1 w with
  | some (c', ns, _) => if c' = c ∧ ns.contains m = false then (mr s S1).bind fun ws S2 => g (w :: ws) S2 else .bad
  | none => .bad
section
variable {P : Program} {w : World} {K : PySem.W.Frag} {mg : Str → Option Value} {base : Heap}
theorem me_e {c m q : Str} {st : Stmt} {N ps : List Str} {k : Nat} {b : SS} (T : MTx K mg c m q st ps) (Sc : FnScope N ps (defScope st))
    (hb : ∀ (f : Addr) (cdv : Value) (A : Around) (outer : List Env) (s : Shared) (H : Hp) (E : XK), Room k (A.deeper (envOfC q (defScope st) s.heap.objs.size f cdv)) → Takes (cxOf (L2.CX P w) P w K mg base N q (defScope st) f cdv A outer s H E) (fun c d _ H => E c d H) → PSsM (cxOf (L2.CX P w) P w K mg base N q (defScope st) f cdv A outer s H E) E (defBody st) b) :
    MeE P w K mg base (k + 1) c m q st ps (runB N.length b) := by
  obtain ⟨C, f, fd, h1, h2, h3, F, hb'⟩ := T
  exact ⟨C, f, fd, h1, h2, h3, F, hb', fn_m F Sc (hb f)⟩
theorem meE_bad {c m q : Str} {st : Stmt} {ps : List Str} {k : Nat} (T : MTx K mg c m q st ps) : MeE P w K mg base k c m q st ps (fun _ _ => .bad) := by
  obtain ⟨C, f, fd, h1, h2, h3, F, hb'⟩ := T
  exact ⟨C, f, fd, h1, h2, h3, F, hb', fn_bad⟩
end
section
variable {X : Cx} {E : XK} {pos apos : Pos} {e o : Expr} {es : List Expr} {mo : SM W} {mr : SM (List W)} {c m q : Str} {n k k' : Nat} {st : Stmt} {ps : List Str} {g : Fn} {pl : Sem Bool}
theorem meth_sp {C : Addr} {σ : L2.St} {H : Hp} {Q : VK} (hC : X.mg c = some (.ref C)) (h : tE X E (mMeth c m g mo mr) σ H Q) (hn : ∀ s S ws S', mr s S = .ok ws S' → ws.length = n) : tMeth C m (spM X.K X.mg (n + 1) g) [] E (tE X E mo) (tA X E mr) σ H Q :=
  tX.bind h fun ρ1 H1 w x s S1 rep env r out => by
    cases e1 : insAt S1 w with
    | none => rw [e1] at out; exact out.elim
    | some p =>
      obtain ⟨c', ns, ws0⟩ := p
      rw [e1] at out
      dsimp only at out
      split at out
      · rename_i hcc
        obtain ⟨hcc, hnm⟩ := hcc
        subst hcc
        obtain ⟨a, C', dx, vs0, rfl, hm, ha, hl, hr⟩ := insAt_of rep r e1
        rw [hC] at hm; cases hm
        refine ⟨a, dx, _, rfl, ha, lookup_not hnm, ρ1, s, S1, rep, env, ?_⟩
        cases e2 : mr s S1 with
        | ok ws S2 =>
          rw [e2] at out
          exact fun ρ2 H2 vs x rep2 r2 => ⟨ρ2, S2, w :: ws, rep2, by rw [List.append_nil]; exact .cons (r.ext x) r2, by rw [List.length_cons, hn _ _ _ _ e2], Out.ext x out⟩
        | exc c ns ws S2 => rw [e2] at out; exact out
        | bad => rw [e2] at out; exact out
      · exact out.elim
theorem pm_meth [hl : Len mr n] (F : MeE X.prog X.w X.K X.mg X.base k c m q st ps g) (hr : Room k' X.A) (hk : k ≤ k') (tk : Takes X (fun c d _ H => E c d H)) (ho : PM X E o mo) (ha : PAM X E (e :: es) mr) (hn : n + 1 = ps.length := by rfl)
    (hst : starEach (e :: es) X.env = (false, eval e X.env) :: starEach es X.env := by rfl) (hpl : (backTo pos (starEach es X.env)).any (·.1) = false := by rfl)
    (ht : eval (.Call (.Attribute o m apos) (e :: es) [] pos) X.env = (do
      let ov ← eval o X.env
      standAt apos.atName
      let (f, first) ← holding [ov] (getMethod ov m pl)
      callWith pos f first (backTo pos (starEach (e :: es) X.env)) (backToKw pos (keywordEach [] X.env))) := by rfl) : PM X E (.Call (.Attribute o m apos) (e :: es) [] pos) (mMeth c m g mo mr) := by
  obtain ⟨C, f, fd, h1, h2, h3, h4, h5, h6⟩ := F
  rw [← hn] at h6
  exact pe_imp (pe_meth (pl := pl) ho h2 h3 h6 (hr.mono hk) h5 .nil (passM tk) ha hst hpl ht) fun σ H Q h => meth_sp h1 h hl.len
theorem pm_meth0 (F : MeE X.prog X.w X.K X.mg X.base k c m q st ps g) (hr : Room k' X.A) (hk : k ≤ k') (tk : Takes X (fun c d _ H => E c d H)) (ho : PM X E o mo) (hn : 1 = ps.length := by rfl)
    (ht : eval (.Call (.Attribute o m apos) [] [] pos) X.env = (do
      let ov ← eval o X.env
      standAt apos.atName
      let (f, first) ← holding [ov] (getMethod ov m pl)
      callWith pos f first (backTo pos (starEach [] X.env)) (backToKw pos (keywordEach [] X.env))) := by rfl) : PM X E (.Call (.Attribute o m apos) [] [] pos) (mMeth c m g mo mNil) := by
  obtain ⟨C, f, fd, h1, h2, h3, h4, h5, h6⟩ := F
  rw [← hn] at h6
  refine pe_imp (pe_meth0 (pl := pl) ho h2 h3 h6 (hr.mono hk) h5 .nil (passM tk) ht) fun σ H Q h => ?_
  have := meth_sp (n := 0) h1 h (fun s S ws S' e => by cases e; rfl)
  obtain ⟨ρ, s, S, rep, env, o⟩ := this
  refine ⟨ρ, s, S, rep, env, o.monoQ fun x H1 ⟨a, dx, fs, e1, e2, e3, ρ2, s2, S2, rep2, env2, o2⟩ => ⟨a, dx, fs, e1, e2, e3, Out.here o2 rep2 .nil⟩⟩
end
/-! ### static methods -/
/-- a static method of the class c that is worth g -/
structure SmF (K : PySem.W.Frag) (C f : Addr) (m : Str) : Prop where
  ex : ∃ (mc : Value) (p : Addr) (rest : List Value), ClX.CRead K C mc ∧ PySem.W.findCls K (.ref C) mc m = some (.get (.builtin "staticmethod.__get__") (.ref p) .none (.ref C)) ∧ PySem.W.recIn K p "staticmethod" = some (.ref f :: rest)
def StTx (K : PySem.W.Frag) (mg : Str → Option Value) (c m q : Str) (st : Stmt) (ps : List Str) : Prop := ∃ C f fd, mg c = some (.ref C) ∧ SmF K C f m ∧ Fun K m q st f fd ∧ Binds K fd ps []
def StE (P : Program) (w : World) (K : PySem.W.Frag) (mg : Str → Option Value) (base : Heap) (k : Nat) (c m q : Str) (st : Stmt) (ps : List Str) (g : Fn) : Prop :=
  ∃ C f fd, mg c = some (.ref C) ∧ SmF K C f m ∧ Fun K m q st f fd ∧ Binds K fd ps [] ∧ FnM P w K mg base k f fd ps ps.length g
section
variable {P : Program} {w : World} {K : PySem.W.Frag} {mg : Str → Option Value} {base : Heap}
theorem st_e {c m q : Str} {st : Stmt} {N ps : List Str} {k : Nat} {b : SS} (T : StTx K mg c m q st ps) (Sc : FnScope N ps (defScope st))
    (hb : ∀ (f : Addr) (cdv : Value) (A : Around) (outer : List Env) (s : Shared) (H : Hp) (E : XK), Room k (A.deeper (envOfC q (defScope st) s.heap.objs.size f cdv)) → Takes (cxOf (L2.CX P w) P w K mg base N q (defScope st) f cdv A outer s H E) (fun c d _ H => E c d H) → PSsM (cxOf (L2.CX P w) P w K mg base N q (defScope st) f cdv A outer s H E) E (defBody st) b) :
    StE P w K mg base (k + 1) c m q st ps (runB N.length b) := by
  obtain ⟨C, f, fd, h1, h2, F, hb'⟩ := T
  exact ⟨C, f, fd, h1, h2, F, hb', fn_m F Sc (hb f)⟩
end
section
variable {X : Cx} {E : XK} {pos apos p : Pos} {e o : Expr} {es : List Expr} {mo : SM W} {mr mk : SM (List W)} {c m q : Str} {n k k' : Nat} {st : Stmt} {ps : List Str} {g : Fn} {pl : Sem Bool}
theorem getsm_ok {pins : List (Addr × Obj)} {σ : L2.St} {H : Hp} {s : Shared} {A : Around} {E : Value → Shared → Prop} {C f : Addr} {Q : Value × List Value → Shared → Prop} (I : Inv X pins σ H s) (F : SmF X.K C f m) (h : ∀ s', Inv X pins σ H s' → Q (.ref f, []) s') :
    wpAny (model X.prog X.w) A (getMethod (.ref C) m pl) Q E s := by
  obtain ⟨mc, p, rest, r, e, hp⟩ := F.ex
  refine PySem.W.method_cls I.kIn r.ga (PySem.W.cls_bind I.kIn r.rd e (wpAny_call (PySem.W.sm_get (s := { s with toks := s.toks + 1 }) I.kIn hp ?_)))
  exact PySem.W.handed_on rfl (h _ (I.tok _))
theorem pm_stat [hl : Len mr n] (F : StE X.prog X.w X.K X.mg X.base k c m q st ps g) (hr : Room k' X.A) (hk : k ≤ k') (tk : Takes X (fun c d _ H => E c d H)) (ha : PAM X E (e :: es) mr) (hn : n = ps.length := by rfl)
    (hg : Gl X c := by rfl) (hdb : (c == ("__debug__" : Str)) = false := by decide +kernel)
    (hst : starEach (e :: es) X.env = (false, eval e X.env) :: starEach es X.env := by rfl) (hpl : (backTo pos (starEach es X.env)).any (·.1) = false := by rfl)
    (ht : eval (.Call (.Attribute (.Name c p) m apos) (e :: es) [] pos) X.env = (do
      let ov ← eval (.Name c p) X.env
      standAt apos.atName
      let (f, first) ← holding [ov] (getMethod ov m pl)
      callWith pos f first (backTo pos (starEach (e :: es) X.env)) (backToKw pos (keywordEach [] X.env))) := by rfl) : PM X E (.Call (.Attribute (.Name c p) m apos) (e :: es) [] pos) (mAp g mr) := by
  obtain ⟨C, f, fd, h1, h2, h4, h5, h6⟩ := F
  rw [← hn] at h6
  refine ⟨fun pins s σ H Q I h => ?_⟩
  refine PySem.W.methodCall_KW (pl := pl) (thn ((pe_glob (v := .ref C) (pos := p) hg h1 rfl hdb).run pins s σ H (fun v H1 => v = .ref C ∧ H1 = H) I ⟨rfl, rfl⟩) fun u s1 ⟨x, H1, I1, rx, ex, eH⟩ => ?_) ht
  subst ex eH
  obtain rfl : u = Value.ref C := rx
  refine getsm_ok I1 h2 fun s2 I2 => ?_
  refine PySem.W.callWith_K (first := []) (h₀ := X.base) I2.ok.mod.kin h4.kp (thn (ha.run pos pins s2 σ H1 _ I2 (call_sp h hl.len)) fun us s3 ⟨vs, H2, I3, r, q2⟩ => ⟨I3.kIn, ?_⟩) hst hpl
  exact run_fn (us := us) (vs := vs) h6 (hr.mono hk) h5 .nil (passM tk) I3 r q2
theorem pm_stat0 (F : StE X.prog X.w X.K X.mg X.base k c m q st [] g) (hr : Room k' X.A) (hk : k ≤ k') (tk : Takes X (fun c d _ H => E c d H))
    (hg : Gl X c := by rfl) (hdb : (c == ("__debug__" : Str)) = false := by decide +kernel)
    (ht : eval (.Call (.Attribute (.Name c p) m apos) [] [] pos) X.env = (do
      let ov ← eval (.Name c p) X.env
      standAt apos.atName
      let (f, first) ← holding [ov] (getMethod ov m pl)
      callWith pos f first (backTo pos (starEach [] X.env)) (backToKw pos (keywordEach [] X.env))) := by rfl) : PM X E (.Call (.Attribute (.Name c p) m apos) [] [] pos) (mAp g mNil) := by
  obtain ⟨C, f, fd, h1, h2, h4, h5, h6⟩ := F
  refine ⟨fun pins s σ H Q I h => ?_⟩
  refine PySem.W.methodCall_KW (pl := pl) (thn ((pe_glob (v := .ref C) (pos := p) hg h1 rfl hdb).run pins s σ H (fun v H1 => v = .ref C ∧ H1 = H) I ⟨rfl, rfl⟩) fun u s1 ⟨x, H1, I1, rx, ex, eH⟩ => ?_) ht
  subst ex eH
  obtain rfl : u = Value.ref C := rx
  refine getsm_ok I1 h2 fun s2 I2 => ?_
  refine PySem.W.callWith_K0 (first := []) I2.kIn h4.kp (run_fn (us := []) (vs := []) h6 (hr.mono hk) h5 .nil (passM tk) I2 .nil ?_)
  obtain ⟨ρ, s', S, rep, env, o⟩ := h
  exact ⟨ρ, S, [], rep, .nil, rfl, o⟩
end
/-! ### new instances of a class whose __init__ only keeps its arguments -/
def tInit (C : Addr) : List (Str × Nat) → TS
  | [] => fun D σ H => D.nx σ H
  | (f, i) :: l => fun D σ H => ∃ x dx fs v, σ[0]? = some (some (V.ref x)) ∧ σ[i]? = some (some v) ∧ H x = some (.ins C dx fs) ∧ fs.length < 1000 ∧ tInit C l D σ (upd H x (.ins C dx (putF f v fs)))
theorem psi_nil {X : Cx} {C : Addr} : PSs X [] (tInit C []) := pss_imp pss_nil fun D σ H h => h
theorem psi_cons {X : Cx} {C : Addr} {x0 f y : Str} {i : Nat} {p1 p2 p3 p4 : Pos} {sts : List Stmt} {l : List (Str × Nat)} (hc : Cls X.K C) (hn : NoAttr X.K C f) (hs : PSs X sts (tInit C l)) (h0 : X.N[0]? = some x0 := by rfl) (hi : X.N[i]? = some y := by rfl)
    (hv0 : Vis X.env.scope x0 := by first | exact Or.inl rfl | exact Or.inr (Or.inl rfl)) (hvi : Vis X.env.scope y := by first | exact Or.inl rfl | exact Or.inr (Or.inl rfl))
    (hd0 : (x0 == ("__debug__" : Str)) = false := by decide +kernel) (hdi : (y == ("__debug__" : Str)) = false := by decide +kernel) (hk0 : (x0 == ("__classdict__" : Str)) = false := by decide +kernel) (hki : (y == ("__classdict__" : Str)) = false := by decide +kernel)
    (hsw : swapsWith (.Name y p3) (some (.Attribute (.Name x0 p1) f p2)) p4.line X.env = pure false := by rfl) :
    PSs X (.Assign [.Attribute (.Name x0 p1) f p2] (.Name y p3) p4 :: sts) (tInit C ((f, i) :: l)) :=
  pss_imp (pss_cons (ps_fld (pe_var (pos := p1) h0 hv0 hd0 hk0) (pe_var (pos := p3) hi hvi hdi hki) hsw) hs) fun D σ H ⟨x, dx, fs, v, e0, ei, ex, hl, h⟩ => ⟨v, ei, .ref x, e0, x, C, dx, fs, rfl, ex, hc, hn, hl, h⟩
end RL
end

section
set_option maxRecDepth 100000
set_option maxHeartbeats 4000000
namespace RL
open PySem PySem.Spec L2 OrdX
open PyProof.Rows hiding St
/-! ### C(..) -/
theorem upd_id {H : Hp} {a : Addr} {o : HO} (h : H a = some o) : upd H a o = H := by
  funext b
  by_cases e : b = a
  · subst e; rw [upd_same, h]
  · rw [upd_ne e]
theorem putF_new {f : Str} {v : V} : ∀ {fs : List (Str × V)}, f ∉ fs.map (·.1) → putF f v fs = fs ++ [(f, v)]
  | [], _ => rfl
  | (g, x) :: r, h => by
    rw [List.map_cons, List.mem_cons, not_or] at h
    rw [show putF f v ((g, x) :: r) = (if g = f then (g, v) :: r else (g, x) :: putF f v r) from rfl, if_neg (fun e => h.1 e.symm), putF_new h.2]
    rfl
theorem init_run {C x dx : Addr} {D : Ends} : ∀ {l : List (Str × Nat)} {us : List V} {fs : List (Str × V)} {σ : L2.St} {H : Hp}, σ[0]? = some (some (V.ref x)) → (∀ (j : Nat) p, l[j]? = some p → ∃ u, us[j]? = some u ∧ σ[p.2]? = some (some u)) → us.length = l.length →
    (l.map (·.1)).Nodup → (∀ p ∈ l, p.1 ∉ fs.map (·.1)) → fs.length + l.length < 1000 → H x = some (.ins C dx fs) → D.nx σ (upd H x (.ins C dx (fs ++ (l.map (·.1)).zip us))) → tInit C l D σ H
  | [], us, fs, σ, H, _, _, hl, _, _, _, hx, h => by
    have : upd H x (.ins C dx (fs ++ ([] : List Str).zip us)) = H := by rw [List.zip_nil_left, List.append_nil]; exact upd_id hx
    rw [List.map_nil, this] at h
    exact h
  | (f, i) :: l, [], _, _, _, _, _, hl, _, _, _, _, _ => by simp at hl
  | (f, i) :: l, u :: us, fs, σ, H, h0, hv, hl, nd, hn, hz, hx, h => by
    obtain ⟨u', e1, e2⟩ := hv 0 (f, i) rfl
    cases (Option.some.inj e1 : u = u')
    rw [List.map_cons, List.nodup_cons] at nd
    rw [List.length_cons] at hz
    refine ⟨x, dx, fs, u, h0, e2, hx, by omega, ?_⟩
    rw [putF_new (hn (f, i) List.mem_cons_self)]
    refine init_run (us := us) (fs := fs ++ [(f, u)]) h0 (fun j p hj => hv (j + 1) p hj) (by simpa using hl) nd.2 (fun p m => ?_) (by rw [List.length_append, List.length_singleton]; omega) upd_same ?_
    · rw [List.map_append, List.mem_append, not_or]
      refine ⟨hn p (List.mem_cons_of_mem _ m), fun z => ?_⟩
      have : p.1 = f := by simpa using z
      exact nd.1 (this ▸ List.mem_map.mpr ⟨p, m, rfl⟩)
    · rw [upd_upd, List.append_assoc]
      exact h
/-- what such an __init__ promises -/
def spInit (C : Addr) (ns : List Str) : Sp := fun vs H Q _ => ∃ x dx us, vs = V.ref x :: us ∧ us.length = ns.length ∧ H x = some (.ins C dx []) ∧ Q .non (upd H x (.ins C dx (ns.zip us)))
def MkE (P : Program) (w : World) (K : PySem.W.Frag) (mg : Str → Option Value) (base : Heap) (k : Nat) (c : Str) (ns : List Str) : Prop :=
  ∃ C f fd ps, mg c = some (.ref C) ∧ Mk K C f ∧ Binds K fd ps [] ∧ FnOk P w K mg base (L2.CX P w) k f fd ps (spInit C ns)
/-- the text's facts of a class and its __init__ -/
def MkTx (K : PySem.W.Frag) (mg : Str → Option Value) (c q : Str) (st : Stmt) (ps ns : List Str) : Prop := ∃ C f fd, mg c = some (.ref C) ∧ Cls K C ∧ Mk K C f ∧ Fun K "__init__" q st f fd ∧ Binds K fd ps [] ∧ ∀ n ∈ ns, NoAttr K C n
theorem mk_e {P : Program} {w : World} {K : PySem.W.Frag} {mg : Str → Option Value} {base : Heap} {c q : Str} {st : Stmt} {N ps ns : List Str} {k : Nat} {l : List (Str × Nat)} (T : MkTx K mg c q st ps ns) (Sc : FnScope N ps (defScope st))
    (hl : l.map (·.1) = ns) (hsl : l.map (·.2) = (List.range ns.length).map (· + 1)) (nd : ns.Nodup) (h1000 : ns.length < 1000) (hp : ps.length = ns.length + 1) (hN : ps.length ≤ N.length)
    (hb : ∀ (C f : Addr) (cdv : Value) (A : Around) (outer : List Env) (s : Shared) (H : Hp) (E : XK), Cls K C → (∀ n ∈ ns, NoAttr K C n) → PSs (cxOf (L2.CX P w) P w K mg base N q (defScope st) f cdv A outer s H E) (defBody st) (tInit C l)) :
    MkE P w K mg base (k + 1) c ns := by
  obtain ⟨C, f, fd, h1, h2, h3, F, h5, h6⟩ := T
  refine ⟨C, f, fd, ps, h1, h3, h5, F.okX Sc (fun vs H Q E h => ?_) fun cdv A outer s H vs Q E hr h => ⟨_, hb C f cdv A outer s H E h2 h6, ?_⟩⟩
  · obtain ⟨x, dx, us, rfl, e, _⟩ := h
    rw [List.length_cons, e, hp]
  · obtain ⟨x, dx, us, rfl, e, hx, q⟩ := h
    have hll : l.length = ns.length := by rw [← hl, List.length_map]
    refine init_run (x := x) (dx := dx) (us := us) (fs := []) (by simp [L2.start]) (fun j p hj => ?_) (by rw [e, hll]) (by rw [hl]; exact nd) (by simp) (by rw [List.length_nil, hll]; omega) hx (by rw [List.nil_append, hl]; exact q)
    have hjl : j < l.length := (List.getElem?_eq_some_iff.mp hj).1
    have hju : j < us.length := by rw [e, ← hll]; exact hjl
    refine ⟨us[j], List.getElem?_eq_getElem hju, ?_⟩
    have e2 : p.2 = j + 1 := by
      have : (l.map (·.2))[j]? = some p.2 := by rw [List.getElem?_map, hj]; rfl
      rw [hsl, List.getElem?_map, List.getElem?_range (by rw [← hll]; exact hjl)] at this
      exact (Option.some.inj this).symm
    rw [e2]
    unfold L2.start
    rw [List.getElem?_append_left (by simp; omega), List.getElem?_map, List.getElem?_cons_succ, List.getElem?_eq_getElem hju]
    rfl
def gMake (c : Str) (ns : List Str) (ws : List W) (S : Store) : Res W := if ws.length = ns.length then .ok (.ins c ns ws) S else .bad
section
variable {X : Cx} {E : XK} {pos apos p : Pos} {e o : Expr} {es : List Expr} {mo : SM W} {mr mk : SM (List W)} {c m q x : Str} {n k k' : Nat} {st : Stmt} {ps ns : List Str} {g : Fn} {pl : Sem Bool}
theorem pm_make (F : MkE X.prog X.w X.K X.mg X.base k c ns) (hr : Room k' X.A) (hk : k + 1 ≤ k') (tk : Takes X (fun c d _ H => E c d H)) (ha : PAM X E (e :: es) mr)
    (hg : Gl X c := by rfl) (hdb : (c == ("__debug__" : Str)) = false := by decide +kernel) (he : starEach (e :: es) X.env = (false, eval e X.env) :: starEach es X.env := by rfl) (hpl : (backTo pos (starEach es X.env)).any (·.1) = false := by rfl) : PM X E (.Call (.Name c p) (e :: es) [] pos) (mAp (gMake c ns) mr) := by
  obtain ⟨C, f, fd, ps, h1, h2, h3, h4⟩ := F
  refine pe_imp (pe_make (E := E) h2 h4 (hr.mono hk) hg h1 h3 .nil (passM tk) ha hdb he hpl) fun σ H Q h => ?_
  refine tX.bind (m := mr) (k := fun ws s S => gMake c ns ws S) h fun ρ1 H1 ws vs s S1 rep env r o x dx hx hdx hne => ?_
  unfold gMake at o
  split at o
  · rename_i hz
    rw [List.append_nil]
    obtain ⟨e1, rep1⟩ := rep.tree hdx (.own x)
    have hx1 : upd H1 dx (.own x) x = none := by rw [upd_ne (fun z => hne z.symm)]; exact hx
    obtain ⟨e2, rep2⟩ := rep1.tree hx1 (.ins C dx (ns.zip vs))
    refine ⟨x, dx, vs, rfl, by rw [← r.length]; exact hz, upd_same, rfl, ?_⟩
    rw [upd_upd]
    exact o ρ1 _ _ (e1.trans e2) rep2 (.ins h1 (fx_new rep1 hx1 _) (by rw [← r.length]; exact hz.symm) ((r.ext e1).ext e2))
  · exact o.elim
end
/-! ### a class by its name -/
theorem kcon_cls {K : PySem.W.Frag} {mg : Str → Option Value} {x : Str} {C : Addr} (h : mg x = some (.ref C)) : KCon K mg x (.gl x) := ⟨.ref C, .ref C, h, rfl, fun _ _ => .gl h⟩
/-! ### defs with *rest -/
def StarE (P : Program) (w : World) (K : PySem.W.Frag) (mg : Str → Option Value) (base : Heap) (k : Nat) (x : Str) (np : Nat) (g : Fn) : Prop :=
  ∃ f, mg x = some (.ref f) ∧ PySem.W.keepIn K (.ref f) = true ∧ FnR P w K mg base (L2.CX P w) k f (fun vs H Q E => ∃ ρ S ws us, RepS K mg ρ H S ∧ RWs K mg ρ H (ws ++ us) vs ∧ ws.length = np ∧ us.length ≤ lim ∧ Out K mg (RW K mg) E ρ H (g (ws ++ [.tup us]) S) Q)
def StarTx (K : PySem.W.Frag) (mg : Str → Option Value) (x : Str) (st : Stmt) (ps : List Str) (pv : Str) : Prop :=
  ∃ (f : Addr) (oc : Value) (od : Option Addr) (kV doc pm : Value) (an : Option Addr) (cdv ct : Value) (osl : Array (Option Value)), mg x = some (.ref f) ∧ PySem.W.keepIn K (.ref f) = true ∧
    K.lookup f = some ⟨oc, od, .func (PySem.W.fnOf x x (defArgs st) (defBody st) (defScope st) .none kV doc pm an cdv ct), osl⟩ ∧ PySem.W.codeIn K cdv x = true ∧
    ∀ us rest : List Value, us.length = ps.length → bindArgs (PySem.W.fnOf x x (defArgs st) (defBody st) (defScope st) .none kV doc pm an cdv ct) ⟨us ++ rest, []⟩ = (newTuple rest >>= fun t => pure (ps.zip us ++ [(pv, t)]))
theorem RWs.split {K : PySem.W.Frag} {mg : Str → Option Value} {ρ : RT} {H : Hp} : ∀ {ws us : List W} {vs : List V}, RWs K mg ρ H (ws ++ us) vs → ∃ v1 v2, vs = v1 ++ v2 ∧ RWs K mg ρ H ws v1 ∧ RWs K mg ρ H us v2
  | [], us, vs, r => ⟨[], vs, rfl, .nil, r⟩
  | w :: ws, us, _, .cons a r => by
    obtain ⟨v1, v2, e, r1, r2⟩ := RWs.split (ws := ws) (us := us) r
    exact ⟨_ :: v1, v2, by rw [e]; rfl, .cons a r1, r2⟩
theorem star_e {P : Program} {w : World} {K : PySem.W.Frag} {mg : Str → Option Value} {base : Heap} {x pv : Str} {st : Stmt} {N ps : List Str} {k : Nat} {m : SS} (T : StarTx K mg x st ps pv) (Sc : FnScope N (ps ++ [pv]) (defScope st))
    (hb : ∀ (f : Addr) (cdv : Value) (A : Around) (outer : List Env) (s : Shared) (H : Hp) (E : XK), Room k (A.deeper (envOfC x (defScope st) s.heap.objs.size f cdv)) → Takes (cxOf (L2.CX P w) P w K mg base N x (defScope st) f cdv A outer s H E) (fun c d _ H => E c d H) → PSsM (cxOf (L2.CX P w) P w K mg base N x (defScope st) f cdv A outer s H E) E (defBody st) m) :
    StarE P w K mg base (k + 1) x ps.length (runB N.length m) := by
  obtain ⟨f, oc, od, kV, doc, pm, an, cdv, ct, osl, h1, h2, h3, h4, h5⟩ := T
  refine ⟨f, h1, h2, FnR.imp (StX.fn_star (sp := spM K mg (ps.length + 1) (runB N.length m)) h3 h4 Sc StX.cxUp h5 fun A outer s H vs Q E hr h => ⟨_, hb f cdv A outer s H E hr (takes_of rfl rfl rfl rfl), ?_⟩) fun vs H Q E h => ?_⟩
  · obtain ⟨ρ, S, ws, rep, rs, hn, o⟩ := h
    refine ⟨ρ, startW N.length ws, S, rep, env_start rs, ?_⟩
    unfold runB at o
    show OutS K mg E ρ H (m (startW N.length ws) S) _
    cases e : m (startW N.length ws) S with
    | ok p S1 =>
      obtain ⟨fl, s1⟩ := p
      rw [e] at o
      cases fl with
      | nx => exact fun ρ' H' σ' x rep' env' => o ρ' H' .non x rep' .non
      | rt u => exact o
      | bk => exact o.elim
      | ct => exact o.elim
    | exc c ns ws' S1 => rw [e] at o; exact o
    | bad => rw [e] at o; exact o
  · obtain ⟨ρ, S, ws, us, rep, rs, hn, hz, o⟩ := h
    obtain ⟨v1, v2, rfl, r1, r2⟩ := rs.split
    refine ⟨v1, v2, rfl, by rw [← r1.length]; exact hn, by rw [← r2.length]; exact lim_line hz, fun p hp => ?_⟩
    obtain ⟨e1, rep1⟩ := rep.tree hp (.tup v2)
    exact ⟨ρ, S, ws ++ [.tup us], rep1, (r1.ext e1).append (.cons (.tup (.inl (fx_new rep hp _)) (r2.ext e1)) .nil), by rw [List.length_append, List.length_singleton, hn], Out.ext e1 o⟩
/-- the arguments as the def sees them -/
def gStar (np : Nat) (g : Fn) (ws : List W) (S : Store) : Res W := if np ≤ ws.length ∧ ws.length ≤ lim then g (ws.take np ++ [.tup (ws.drop np)]) S else .bad
section
variable {X : Cx} {E : XK} {pos p : Pos} {e : Expr} {es : List Expr} {mr : SM (List W)} {x : Str} {n np k k' : Nat} {g : Fn}
theorem star_sp {σ : L2.St} {H : Hp} {Q : VK} (h : tE X E (mAp (gStar np g) mr) σ H Q) : tA X E mr σ H fun vs H => ∃ ρ S ws us, RepS X.K X.mg ρ H S ∧ RWs X.K X.mg ρ H (ws ++ us) vs ∧ ws.length = np ∧ us.length ≤ lim ∧ Out X.K X.mg (RW X.K X.mg) E ρ H (g (ws ++ [.tup us]) S) Q :=
  tX.bind (m := mr) (k := fun ws s S => gStar np g ws S) h fun ρ1 H1 ws vs s S1 rep env r o => by
    unfold gStar at o
    split at o
    · rename_i hz
      exact ⟨ρ1, S1, ws.take np, ws.drop np, rep, by rw [List.take_append_drop]; exact r, by rw [List.length_take]; omega, by rw [List.length_drop]; exact Nat.le_trans (Nat.sub_le _ _) hz.2, o⟩
    · exact o.elim
theorem pm_callV (F : StarE X.prog X.w X.K X.mg X.base k x np g) (hr : Room k' X.A) (hk : k ≤ k') (tk : Takes X (fun c d _ H => E c d H)) (ha : PAM X E (e :: es) mr)
    (hg : Gl X x := by rfl) (hdb : (x == ("__debug__" : Str)) = false := by decide +kernel) (he : starEach (e :: es) X.env = (false, eval e X.env) :: starEach es X.env := by rfl) (hpl : (backTo pos (starEach es X.env)).any (·.1) = false := by rfl) : PM X E (.Call (.Name x p) (e :: es) [] pos) (mAp (gStar np g) mr) := by
  obtain ⟨f, h1, h2, h3⟩ := F
  refine ⟨fun pins s σ H Q I h => ?_⟩
  refine wpAny_Call_Name_kw (ld_glob I hg h1 ?_ hdb)
  refine PySem.W.callWith_K (h₀ := X.base) I.ok.mod.kin h2 (thn (ha.run pos pins s σ H _ I (star_sp h)) fun us s1 ⟨vs, H1, I1, r, q⟩ => ⟨I1.kIn, ?_⟩) he hpl
  exact wpAny_call (run_fnR h3 (hr.mono hk) (passM tk) I1 r q)
end
/-! ### own operators -/
def isIns (c : Str) : W → Bool
  | .ins c' _ _ => c' == c
  | _ => false
def isStr : W → Bool
  | .str _ => true
  | _ => false
/-- what a class's operator wants of the text -/
structure OwnOp (K : PySem.W.Frag) (C : Addr) (op : Operator) (f r : Addr) : Prop where
  first : PySem.W.selfFirst K C = true
  fw : PySem.W.findIn K (.ref C) (PySem.dunder op.info.2) = some (some (.ref f))
  fn : PySem.W.isFn K (.ref f) = true
  rw : PySem.W.findIn K (.ref C) (dunderR op.info.2) = some (some (.ref r))
  rn : PySem.W.isFn K (.ref r) = true
  s1 : PySem.W.findIn K (.type "str") (PySem.dunder op.info.2) = some none
  s2 : PySem.W.findIn K (.type "str") (dunderR op.info.2) = some none
  sub : PySem.W.subIn K (.type "str") (.ref C) = some false
def gOwn (c : Str) (base : W → W → Store → Res W) (g gr : Fn) (w1 w2 : W) (S : Store) : Res W :=
  if isIns c w1 = true then (if (isIns c w2 || isStr w2) = true then g [w1, w2] S else .bad) else if isIns c w2 = true then (if isStr w1 = true then gr [w2, w1] S else .bad) else base w1 w2 S
section
variable {X : Cx} {E : XK} {c m1 m2 q1 q2 : Str} {k k' : Nat} {st1 st2 : Stmt} {ps1 ps2 : List Str} {g gr : Fn} {base : W → W → Store → Res W}
theorem cmpBack {pins : List (Addr × Obj)} {σ : L2.St} {Q : VK} {v : Value} {s : Shared} (h : EP X pins σ Q v s) : PySem.W.CmpBack (EP X pins σ Q) v s := by
  obtain ⟨x, H', I, r, q⟩ := h
  cases v <;> first | exact ⟨x, H', I, r, q⟩ | (cases x <;> first | (cases (r : _ = _); done) | (obtain ⟨_, e⟩ := (r : ∃ _, _); cases e))
theorem ins_of {K : PySem.W.Frag} {mg : Str → Option Value} {ρ : RT} {H : Hp} {w : W} {x : V} {C : Addr} (hC : mg c = some (.ref C)) (r : RW K mg ρ H w x) (h : isIns c w = true) : ∃ a dx fs, x = .ref a ∧ H a = some (.ins C dx fs) := by
  cases w with
  | ins c' ns ws =>
    have h : c' = c := by simpa [isIns] using h
    subst h
    cases r with | ins hc hf hl hr => rw [hC] at hc; cases hc; exact ⟨_, _, _, rfl, hf.1⟩
  | _ => cases h
theorem inst_of {pins : List (Addr × Obj)} {σ : L2.St} {H : Hp} {s : Shared} {a C dx : Addr} {fs : List (Str × V)} (I : Inv X pins σ H s) (h : H a = some (.ins C dx fs)) : ∃ ox od, PySem.W.InstAt s.heap a ox C od ∧ ox.data = .plain := by
  obtain ⟨mA, J, _⟩ := ins_get I.hok h
  obtain ⟨od, J, _⟩ := J.look
  exact ⟨_, _, J, rfl⟩
theorem om_own {op : Operator} (hop : ∀ f r C, X.mg c = some (.ref C) → Meth X.K C m1 f → Meth X.K C m2 r → OwnOp X.K C op f r) (F1 : MeE X.prog X.w X.K X.mg X.base k c m1 q1 st1 ps1 g) (F2 : MeE X.prog X.w X.K X.mg X.base k c m2 q2 st2 ps2 gr)
    (hr : Room k' X.A) (hk : k ≤ k') (tk : Takes X (fun c d _ H => E c d H)) (hn1 : ps1.length = 2) (hn2 : ps2.length = 2) (hb : OpM X E (binaryOp op) base) : OpM X E (binaryOp op) (gOwn c base g gr) := by
  intro pins s σ H x y v u Q I rx ry ⟨ρ, S, w1, w2, rep, r1, r2, o⟩
  obtain ⟨C, f, fd, a1, a2, a3, a4, a5, a6⟩ := F1
  obtain ⟨C', f', fd', b1, b2, b3, b4, b5, b6⟩ := F2
  rw [a1] at b1; cases b1
  have O := hop f f' C a1 a3 b3
  rw [hn1] at a6
  rw [hn2] at b6
  unfold gOwn at o
  obtain ⟨m, hF⟩ := I.fr
  split at o
  · rename_i h1
    split at o
    · rename_i h2
      obtain ⟨a, dx, fs, rfl, ha⟩ := ins_of a1 r1 h1
      obtain ⟨ox, od, J, _⟩ := inst_of I ha
      obtain rfl : v = Value.ref a := rx
      have call : wpAny (model X.prog X.w) X.A (call (.ref f) [.ref a, u]) (PySem.W.CmpBack (EP X pins σ Q)) X.xe s :=
        thn (run_fn (us := [.ref a, u]) (vs := [.ref a, y]) a6 (hr.mono hk) a5 .nil (passM tk) I (.cons rfl (.cons ry .nil)) ⟨ρ, S, [w1, w2], rep, .cons r1 (.cons r2 .nil), rfl, o⟩) fun v s' h => cmpBack h
      rw [Bool.or_eq_true] at h2
      rcases h2 with h2 | h2
      · obtain ⟨a', dx', fs', rfl, ha'⟩ := ins_of a1 r2 h2
        obtain ⟨ox', od', J', _⟩ := inst_of I ha'
        obtain rfl : u = Value.ref a' := ry
        exact PySem.W.binop_K hF I.ok.mod.kin J J'.type O.first O.fw O.fn call
      · cases w2 with
        | str z =>
          cases r2
          obtain ⟨t, rfl⟩ := ry
          exact PySem.W.ksp_binT (T := "str") hF I.ok.mod.kin J rfl O.first O.fw O.fn O.rw (.inr ⟨_, rfl⟩) O.s1 O.s2 O.sub call
        | _ => cases h2
    · exact o.elim
  · split at o
    · rename_i h2
      split at o
      · rename_i h3
        obtain ⟨a, dx, fs, rfl, ha⟩ := ins_of a1 r2 h2
        obtain ⟨ox, od, J, _⟩ := inst_of I ha
        obtain rfl : u = Value.ref a := ry
        have call : wpAny (model X.prog X.w) X.A (call (.ref f') [.ref a, v]) (PySem.W.CmpBack (EP X pins σ Q)) X.xe s :=
          thn (run_fn (us := [.ref a, v]) (vs := [.ref a, x]) b6 (hr.mono hk) b5 .nil (passM tk) I (.cons rfl (.cons rx .nil)) ⟨ρ, S, [w2, w1], rep, .cons r2 (.cons r1 .nil), rfl, o⟩) fun v s' h => cmpBack h
        cases w1 with
        | str z =>
          cases r1
          obtain ⟨t, rfl⟩ := rx
          exact PySem.W.rm_rbinT (T := "str") hF I.ok.mod.kin J rfl O.first O.fw O.rw O.rn O.s1 O.s2 call
        | _ => cases h3
      · exact o.elim
    · exact hb pins s σ H x y v u Q I rx ry ⟨ρ, S, w1, w2, rep, r1, r2, o⟩
/-- ~x -/
def gInv (c : Str) (g : Fn) (w : W) (S : Store) : Res W := if isIns c w = true then g [w] S else .bad
theorem um_inv {q : Str} {st : Stmt} {ps : List Str} (F : MeE X.prog X.w X.K X.mg X.base k c "__invert__" q st ps g) (hr : Room k' X.A) (hk : k ≤ k') (tk : Takes X (fun c d _ H => E c d H)) (hn : ps.length = 1) : UnM X E (unaryOp .Invert) (gInv c g) := by
  intro pins s σ H x v Q I rx ⟨ρ, S, w, rep, r, o⟩
  obtain ⟨C, f, fd, a1, a2, a3, a4, a5, a6⟩ := F
  rw [hn] at a6
  unfold gInv at o
  obtain ⟨m, hF⟩ := I.fr
  split at o
  · rename_i h1
    obtain ⟨a, dx, fs, rfl, ha⟩ := ins_of a1 r h1
    obtain ⟨ox, od, J, _⟩ := inst_of I ha
    obtain rfl : v = Value.ref a := rx
    exact PySem.W.ksp_inv hF I.ok.mod.kin J a3.at_ a3.fn (run_fn (us := [.ref a]) (vs := [.ref a]) a6 (hr.mono hk) a5 .nil (passM tk) I (.cons rfl .nil) ⟨ρ, S, [w], rep, .cons r .nil, rfl, o⟩)
  · exact o.elim
end
end RL
end

section
set_option maxRecDepth 100000
set_option maxHeartbeats 4000000
namespace RL
open PySem PySem.Spec L2 OrdX
open PyProof.Rows hiding St
/-! ### isinstance with an own class -/
abbrev tys7 : List String := ["NoneType", "bool", "int", "str", "tuple", "list", "dict"]
abbrev tys6 : List String := ["bool", "int", "str", "tuple", "list", "dict"]
structure IsT (K : PySem.W.Frag) (mg : Str → Option Value) (c : Str) : Prop where
  ex : ∃ C, mg c = some (.ref C) ∧ (∀ a ∈ tys7, PySem.W.kitOne K (.type a) (.ref C) = some false) ∧ PySem.W.kitOne K (.ref C) (.ref C) = some true ∧ (∀ b ∈ tys6, PySem.W.kitOne K (.ref C) (.type b) = some false) ∧
    Cls K C ∧ PySem.W.findIn K (.ref C) "__class__" = some (some (.builtin "object.__class__")) ∧
    PySem.W.specialIn K (.builtin "object.__class__") "__get__" = some (some (.builtin "getset_descriptor.__get__")) ∧ PySem.W.takesIn K (.builtin "object.__class__") = some true ∧ PySem.W.mroIn K C (.type "object") = some true
def ktC (c : Str) : KT := fun t d => match t, d with
  | .ty a, .gl d => if d = c ∧ a ∈ tys7 then some false else none
  | .gl a, .gl d => if a = c ∧ d = c then some true else none
  | .gl a, .ty b => if a = c ∧ b ∈ tys6 then some false else none
  | t, d => ktB t d
theorem ktC_ok {K : PySem.W.Frag} {mg : Str → Option Value} {c : Str} (T : IsT K mg c) : KtOk K mg (ktC c) where
  one := fun t d b tv cv h ht hc => by
    obtain ⟨C, hC, h1, h2, h3, _⟩ := T.ex
    cases ht with
    | ty n =>
      cases hc with
      | ty m => exact ktB_ok.one (.ty n) (.ty m) b _ _ h (.ty n) (mg := mg) (.ty m)
      | @gl x a hg =>
        replace h : (if x = c ∧ n ∈ tys7 then some false else none) = some b := h
        split at h
        · rename_i hz
          obtain ⟨rfl, hz⟩ := hz
          cases h
          rw [hC] at hg; cases hg
          exact h1 n hz
        · cases h
    | @gl x a hg =>
      cases hc with
      | ty m =>
        replace h : (if x = c ∧ m ∈ tys6 then some false else none) = some b := h
        split at h
        · rename_i hz
          obtain ⟨rfl, hz⟩ := hz
          cases h
          rw [hC] at hg; cases hg
          exact h3 m hz
        · cases h
      | @gl y a' hg' =>
        replace h : (if x = c ∧ y = c then some true else none) = some b := h
        split at h
        · rename_i hz
          obtain ⟨rfl, rfl⟩ := hz
          cases h
          rw [hC] at hg hg'; cases hg; cases hg'
          exact h2
        · cases h
  ins := fun d D hD ⟨e, b, h⟩ => by
    obtain ⟨C, hC, h1, h2, h3, h4⟩ := T.ex
    have : d = c := by
      cases e with
      | ty m =>
        replace h : (if d = c ∧ m ∈ tys6 then some false else none) = some b := h
        split at h
        · rename_i hz; exact hz.1
        · cases h
      | gl y =>
        replace h : (if d = c ∧ y = c then some true else none) = some b := h
        split at h
        · rename_i hz; exact hz.1
        · cases h
      | _ => cases h
    subst this
    rw [hC] at hD; cases hD
    exact h4
/-! ### the text's facts, made -/
def ClsT (K : PySem.W.Frag) (mg : Str → Option Value) (c : Str) : Prop := ∃ C, mg c = some (.ref C) ∧ Cls K C
/-- the body of a class -/
def clsB : Stmt → List Stmt
  | .ClassDef _ _ _ b _ _ _ _ _ _ _ => b
  | _ => []
section
variable {K : PySem.W.Frag} {mg : Str → Option Value} {h : Heap} {c m q f : Str} {C g : Addr} {st : Stmt} {ps ns : List Str}
theorem clsT_mk (X : K.In h) (G : h.Ns mainGlobals mg) (a : PySem.W.nsIn K mainGlobals c = some (some (.ref C))) (pg : PySem.W.plainGet K C Str.empty = true) (hd : PySem.W.hasDictIn K C = true) (po : PySem.W.plainOver K C = true)
    (sa : PySem.W.findIn K (.ref C) "__setattr__" = some (some (.builtin "object.__setattr__"))) : ClsT K mg c := ⟨C, PySem.W.mg_of X G a, pg, hd, po, sa⟩
theorem ClsT.at (T : ClsT K mg c) (h : mg c = some (.ref C)) : Cls K C := by
  obtain ⟨D, h1, h2⟩ := T
  rw [h] at h1; cases h1
  exact h2
theorem kconC_mk (X : K.In h) (G : h.Ns mainGlobals mg) (a : PySem.W.nsIn K mainGlobals c = some (some (.ref C))) : KCon K mg c (.gl c) := kcon_cls (PySem.W.mg_of X G a)
theorem fldT_mk (X : K.In h) (G : h.Ns mainGlobals mg) (a : PySem.W.nsIn K mainGlobals c = some (some (.ref C))) (T : ClsT K mg c) (n : PySem.W.findIn K (.ref C) f = some none) : FldT K mg c f :=
  ⟨C, PySem.W.mg_of X G a, T.at (PySem.W.mg_of X G a), n⟩
theorem kit_own {K : PySem.W.Frag} {a : String} {C : Addr} (h1 : PySem.W.isClsIn K C = true) (h2 : PySem.W.typeIn K (.ref C) = some (.type "type")) {b : Bool} (h3 : PySem.W.subIn K (.type a) (.ref C) = some b) : PySem.W.kitOne K (.type a) (.ref C) = some b := by
  have hne : (Value.type a == Value.ref C) = false := Bool.eq_false_iff.mpr fun q => by cases beq_iff_eq.mp q
  unfold PySem.W.kitOne PySem.W.kitCls
  rw [hne, if_neg Bool.false_ne_true]
  dsimp only
  rw [show (PySem.W.clsIn K C).isSome = true from h1, h2, Bool.true_and, if_pos (beq_self_eq_true _)]
  exact h3
theorem kit_self {K : PySem.W.Frag} {C : Addr} : PySem.W.kitOne K (.ref C) (.ref C) = some true := by
  unfold PySem.W.kitOne
  rw [if_pos (beq_self_eq_true _)]
theorem kit_out {K : PySem.W.Frag} {a : String} {C : Addr} {b : Bool} (hm : PySem.W.kitMeta a = true) (h3 : PySem.W.subIn K (.ref C) (.type a) = some b) : PySem.W.kitOne K (.ref C) (.type a) = some b := by
  have hne : (Value.ref C == Value.type a) = false := Bool.eq_false_iff.mpr fun q => by cases beq_iff_eq.mp q
  unfold PySem.W.kitOne PySem.W.kitCls
  rw [hne, if_neg Bool.false_ne_true]
  dsimp only
  rw [if_pos hm]
  exact h3
theorem isT_mk (X : K.In h) (G : h.Ns mainGlobals mg) (a : PySem.W.nsIn K mainGlobals c = some (some (.ref C))) (T : ClsT K mg c) (c1 : PySem.W.isClsIn K C = true) (c2 : PySem.W.typeIn K (.ref C) = some (.type "type"))
    (h1 : PySem.W.subIn K (.type "NoneType") (.ref C) = some false) (h2 : PySem.W.subIn K (.type "bool") (.ref C) = some false) (h3 : PySem.W.subIn K (.type "int") (.ref C) = some false) (h4 : PySem.W.subIn K (.type "str") (.ref C) = some false)
    (h5 : PySem.W.subIn K (.type "tuple") (.ref C) = some false) (h6 : PySem.W.subIn K (.type "list") (.ref C) = some false) (h7 : PySem.W.subIn K (.type "dict") (.ref C) = some false)
    (g2 : PySem.W.subIn K (.ref C) (.type "bool") = some false) (g3 : PySem.W.subIn K (.ref C) (.type "int") = some false) (g4 : PySem.W.subIn K (.ref C) (.type "str") = some false)
    (g5 : PySem.W.subIn K (.ref C) (.type "tuple") = some false) (g6 : PySem.W.subIn K (.ref C) (.type "list") = some false) (g7 : PySem.W.subIn K (.ref C) (.type "dict") = some false)
    (k1 : PySem.W.findIn K (.ref C) "__class__" = some (some (.builtin "object.__class__"))) (k2 : PySem.W.specialIn K (.builtin "object.__class__") "__get__" = some (some (.builtin "getset_descriptor.__get__"))) (k3 : PySem.W.takesIn K (.builtin "object.__class__") = some true) (k4 : PySem.W.mroIn K C (.type "object") = some true) : IsT K mg c := by
  refine ⟨C, PySem.W.mg_of X G a, fun a m => ?_, kit_self, fun a m => ?_, T.at (PySem.W.mg_of X G a), k1, k2, k3, k4⟩
  · refine kit_own c1 c2 ?_
    simp only [tys7, List.mem_cons, List.not_mem_nil, or_false] at m
    rcases m with rfl | rfl | rfl | rfl | rfl | rfl | rfl <;> assumption
  · have hm : ∀ b ∈ tys6, PySem.W.kitMeta b = true := by decide +kernel
    refine kit_out (hm a m) ?_
    simp only [tys6, List.mem_cons, List.not_mem_nil, or_false] at m
    rcases m with rfl | rfl | rfl | rfl | rfl | rfl <;> assumption
section
variable {oc : Value} {od an : Option Addr} {sl : Array (Option Value)} {kV dc pm cd ct : Value}
theorem mtx_mk (X : K.In h) (G : h.Ns mainGlobals mg) (a : PySem.W.nsIn K mainGlobals c = some (some (.ref C))) (T : ClsT K mg c) (at_ : PySem.W.findIn K (.ref C) m = some (some (.ref g))) (fn : PySem.W.isFn K (.ref g) = true)
    (l : K.lookup g = some ⟨oc, od, .func (PySem.W.fnOf m q (defArgs st) (defBody st) (defScope st) .none kV dc pm an cd ct), sl⟩) (cod : PySem.W.codeIn K cd q = true) (k : PySem.W.keepIn K (.ref g) = true)
    (hb : ∀ (kV doc pm : Value) (an : Option Addr) (cdv ct : Value) (us : List Value), us.length = ps.length → bindArgs (PySem.W.fnOf m q (defArgs st) (defBody st) (defScope st) .none kV doc pm an cdv ct) ⟨us, []⟩ = pure (ps.zip us)) : MTx K mg c m q st ps :=
  let F := fun_mk (st := st) l cod k
  ⟨C, g, _, PySem.W.mg_of X G a, T.at (PySem.W.mg_of X G a), ⟨at_, fn, k⟩, F, F.binds hb⟩
theorem mkx_mk (X : K.In h) (G : h.Ns mainGlobals mg) (a : PySem.W.nsIn K mainGlobals c = some (some (.ref C))) (T : ClsT K mg c) (mk : PySem.W.makesIn K C = true) (at_ : PySem.W.findIn K (.ref C) "__init__" = some (some (.ref g))) (fn : PySem.W.isFn K (.ref g) = true) (kc : PySem.W.keepIn K (.ref C) = true)
    (l : K.lookup g = some ⟨oc, od, .func (PySem.W.fnOf "__init__" q (defArgs st) (defBody st) (defScope st) .none kV dc pm an cd ct), sl⟩) (cod : PySem.W.codeIn K cd q = true) (k : PySem.W.keepIn K (.ref g) = true)
    (hb : ∀ (kV doc pm : Value) (an : Option Addr) (cdv ct : Value) (us : List Value), us.length = ps.length → bindArgs (PySem.W.fnOf "__init__" q (defArgs st) (defBody st) (defScope st) .none kV doc pm an cdv ct) ⟨us, []⟩ = pure (ps.zip us))
    (hf : ∀ n ∈ ns, FldT K mg c n) : MkTx K mg c q st ps ns :=
  let F := fun_mk (st := st) l cod k
  ⟨C, g, _, PySem.W.mg_of X G a, T.at (PySem.W.mg_of X G a), ⟨mk, at_, fn, kc⟩, F, F.binds hb, fun n m => by
    obtain ⟨D, h1, h2, h3⟩ := hf n m
    rw [PySem.W.mg_of X G a] at h1; cases h1
    exact h3⟩
theorem stx_mk {p : Addr} {mc : Value} {rest : List Value} (X : K.In h) (G : h.Ns mainGlobals mg) (a : PySem.W.nsIn K mainGlobals c = some (some (.ref C))) (ty : PySem.W.typeIn K (.ref C) = some mc) (rd : PySem.W.readsIn K C mc = true) (ga : PySem.W.specialIn K (.ref C) "__getattribute__" = some (some (.builtin "type.__getattribute__")))
    (e : PySem.W.findCls K (.ref C) mc m = some (.get (.builtin "staticmethod.__get__") (.ref p) .none (.ref C))) (hp : PySem.W.recIn K p "staticmethod" = some (.ref g :: rest))
    (l : K.lookup g = some ⟨oc, od, .func (PySem.W.fnOf m q (defArgs st) (defBody st) (defScope st) .none kV dc pm an cd ct), sl⟩) (cod : PySem.W.codeIn K cd q = true) (k : PySem.W.keepIn K (.ref g) = true)
    (hb : ∀ (kV doc pm : Value) (an : Option Addr) (cdv ct : Value) (us : List Value), us.length = ps.length → bindArgs (PySem.W.fnOf m q (defArgs st) (defBody st) (defScope st) .none kV doc pm an cdv ct) ⟨us, []⟩ = pure (ps.zip us)) : StTx K mg c m q st ps :=
  let F := fun_mk (st := st) l cod k
  ⟨C, g, _, PySem.W.mg_of X G a, ⟨mc, p, rest, ⟨rd, ga⟩, e, hp⟩, F, F.binds hb⟩
theorem startx_mk {x pv : Str} (X : K.In h) (G : h.Ns mainGlobals mg) (a : PySem.W.nsIn K mainGlobals x = some (some (.ref g))) (k : PySem.W.keepIn K (.ref g) = true)
    (l : K.lookup g = some ⟨oc, od, .func (PySem.W.fnOf x x (defArgs st) (defBody st) (defScope st) .none kV dc pm an cd ct), sl⟩) (cod : PySem.W.codeIn K cd x = true)
    (hb : ∀ us rest : List Value, us.length = ps.length → bindArgs (PySem.W.fnOf x x (defArgs st) (defBody st) (defScope st) .none kV dc pm an cd ct) ⟨us ++ rest, []⟩ = (newTuple rest >>= fun t => pure (ps.zip us ++ [(pv, t)]))) : StarTx K mg x st ps pv :=
  ⟨g, oc, od, kV, dc, pm, an, cd, ct, sl, PySem.W.mg_of X G a, k, l, cod, hb⟩
end
theorem ownOp_mk {op : Operator} {C0 : Addr} {m1 m2 : Str} (X : K.In h) (G : h.Ns mainGlobals mg) (a : PySem.W.nsIn K mainGlobals c = some (some (.ref C0))) (first : PySem.W.selfFirst K C0 = true) (e1 : PySem.dunder op.info.2 = m1) (e2 : dunderR op.info.2 = m2)
    (s1 : PySem.W.findIn K (.type "str") m1 = some none) (s2 : PySem.W.findIn K (.type "str") m2 = some none) (sub : PySem.W.subIn K (.type "str") (.ref C0) = some false) :
    ∀ f r C, mg c = some (.ref C) → Meth K C m1 f → Meth K C m2 r → OwnOp K C op f r := fun f r C hC M1 M2 => by
  have h0 := PySem.W.mg_of X G a
  rw [hC] at h0; cases h0
  exact ⟨first, by rw [e1]; exact M1.at_, M1.fn, by rw [e2]; exact M2.at_, M2.fn, by rw [e1]; exact s1, by rw [e2]; exact s2, sub⟩
theorem kdtab_mk {x : Str} {w : World} {p : Addr} {es : Array DictEntry} {n : Nat} {tab : List (Str × Str)} (X : K.In h) (G : h.Ns mainGlobals mg) (a : PySem.W.nsIn K mainGlobals x = some (some (.ref p))) (l : K.lookup p = some ⟨.type "dict", none, .dict es n, #[]⟩) (k : PySem.W.KeysLit w.params es.toList)
    (ht : ∀ kv ∈ tab, ∃ t, PySem.W.nsIn K p kv.1 = some (some (.str kv.2 t))) : KDTab K mg w x tab := by
  refine ⟨p, PySem.W.mg_of X G a, fun k' v e => ?_⟩
  have mem : (k', v) ∈ tab := by
    clear ht
    induction tab with
    | nil => cases e
    | cons q r ih =>
      obtain ⟨k0, v0⟩ := q
      rw [List.lookup_cons] at e
      cases hk : k' == k0 with
      | true => rw [hk] at e; cases e; rw [eq_of_beq hk]; exact List.mem_cons_self
      | false => rw [hk] at e; exact List.mem_cons_of_mem _ (ih e)
  obtain ⟨t, h1⟩ := ht _ mem
  exact ⟨es, n, _, l, k, h1, ⟨t, rfl⟩⟩
end
/-! ### no operator at all -/
theorem om_no {X : Cx} {E : XK} {f : Value → Value → Sem Value} : OpM X E f (fun _ _ _ => .bad) := by
  intro pins s σ H x y v u Q I rx ry ⟨ρ, S, w1, w2, rep, r1, r2, o⟩
  exact o.elim
end RL
end

section
set_option maxRecDepth 100000
set_option maxHeartbeats 4000000
/-! sets of texts made of lists, sorted -/
namespace RT
open PySem PySem.Spec PyProof.Rows L2 PySem.Froz OrdX
/-- at a stands a set whose members are the texts L -/
structure TS (P : Program) (w : World) (h : Heap) (a : Addr) (L : List Str) : Prop where
  nd : L.Nodup
  at_ : ∃ D : SD, h.get? a = some (sObj "set" D) ∧ TxOk P w D L ∧ Ris D.2.2.place.toList ∧ (w.params.followText "set-order" = true ∨ D.2.2.led = true)
section
variable {P : Program} {w : World} {A : Around} {E : Value → Shared → Prop} {s : Shared} {a : Addr} {L : List Str}
theorem TS.at' {h h' : Heap} (T : TS P w h a L) (k : ∀ o, h.get? a = some o → h'.get? a = some o) : TS P w h' a L :=
  ⟨T.nd, by obtain ⟨D, h0, r⟩ := T.at_; exact ⟨D, k _ h0, r⟩⟩
theorem strs_get : ∀ {vs : List Value} {xs : List Str}, StrsAre vs xs → ∀ (i : Nat) (v : Value), vs[i]? = some v → ∃ x u, xs[i]? = some x ∧ v = .str x u
  | _, _, .cons x t _, 0, v, h => by cases Option.some.inj h; exact ⟨x, t, rfl, rfl⟩
  | _, _, .cons _ _ r, i + 1, v, h => strs_get r i v (by simpa using h)
theorem TS.new {h : Heap} (e : h.get? a = some (RS.emp w)) : TS P w h a [] := by
  refine ⟨List.nodup_nil, ⟨(#[], 0, .fresh 0 0 (!w.params.followText "set-order")), e, TxOk.nil rfl, List.Pairwise.nil, ?_⟩⟩
  show _ ∨ (!w.params.followText "set-order") = true
  cases w.params.followText "set-order" with
  | true => exact .inl rfl
  | false => exact .inr rfl
theorem addTx_ris {D : SD} (h : Int) (v : Value) (r : Ris D.2.2.place.toList) : Ris (addTx h v D).2.2.place.toList := by
  have r1 := layNew_ris D.2.2 D.1 h v r
  unfold addTx tailTx
  have r2 : Ris (if (layNew D.2.2 D.1 h v).2.1.plain = true then { (layNew D.2.2 D.1 h v).2.1 with plain := false } else (layNew D.2.2 D.1 h v).2.1).place.toList := by
    cases (layNew D.2.2 D.1 h v).2.1.plain <;> exact r1
  revert r2
  generalize (if (layNew D.2.2 D.1 h v).2.1.plain = true then { (layNew D.2.2 D.1 h v).2.1 with plain := false } else (layNew D.2.2 D.1 h v).2.1) = t2
  intro r2
  cases (!(layNew D.2.2 D.1 h v).2.2.1 && t2.tooFull) with
  | true => exact relayAll_ris _ _ _
  | false => exact r2
theorem addTx_led {D : SD} (h : Int) (v : Value) (r : D.2.2.led = true) : (addTx h v D).2.2.led = true := by
  have r1 : (layNew D.2.2 D.1 h v).2.1.led = true := (layNew_led D.2.2 D.1 h v).trans r
  unfold addTx tailTx
  have r2 : (if (layNew D.2.2 D.1 h v).2.1.plain = true then { (layNew D.2.2 D.1 h v).2.1 with plain := false } else (layNew D.2.2 D.1 h v).2.1).led = true := by
    cases (layNew D.2.2 D.1 h v).2.1.plain <;> exact r1
  revert r2
  generalize (if (layNew D.2.2 D.1 h v).2.1.plain = true then { (layNew D.2.2 D.1 h v).2.1 with plain := false } else (layNew D.2.2 D.1 h v).2.1) = t2
  intro r2
  cases (!(layNew D.2.2 D.1 h v).2.2.1 && t2.tooFull) with
  | true => exact (relayAll_led _ _ _).trans r2
  | false => exact r2
/-- one more text goes in -/
theorem put {k : Str} {u : Tok} {Q : Bool → Shared → Prop} (T : TS P w s.heap a L) (room : L.length + 1 < scanBound)
    (h : ∀ g L' b, TS P w g a L' → (∀ z, z ∈ L' ↔ z = k ∨ z ∈ L) → L'.length ≤ L.length + 1 → (∀ b, b ≠ a → g.get? b = s.heap.get? b) → Q b { s with heap := g }) :
    wpAny (model P w) A (setAddHashed a (.str k u) (hashStr w k)) Q E s := by
  obtain ⟨D, h0, F, r, l⟩ := T.at_
  by_cases hk : k ∈ L
  · have stay := h s.heap L false T (fun z => ⟨.inr, fun q => q.elim (fun e => e ▸ hk) id⟩) (Nat.le_succ _) fun _ _ => rfl
    obtain ⟨e, he, q⟩ := (F.mem k).mp hk
    obtain ⟨es, ep, t⟩ := D
    have fits : t.fits es.size = true := F.fit
    have small : es.size < scanBound := by have := F.sz; dsimp only at this; omega
    unfold setAddHashed setAddHashedIn
    refine wpAny_holding (wpAny_bind (wpAny_setState_of h0 rfl fits ?_))
    dsimp only
    rw [byScan_of rfl small F.el]
    unfold setAddByScan
    refine wpAny_bind (wpAny_bind (wpAny_rule (wpAny_bind (wpAny_setScan_of (knd := strKind P w) (is_str k u) h0 rfl fits F.el ?_))))
    cases hf : List.findIdx? (fun e => (strKind P w).is k e.2) es.toList with
    | none =>
      have no := List.findIdx?_eq_none_iff.mp hf e he
      rw [q] at no
      cases no
    | some j => exact wpAny_pure (wpAny_pure stay)
  · refine add_x h0 F hk room ?_
    refine h _ (k :: L) true ⟨List.nodup_cons.mpr ⟨hk, T.nd⟩, _, get_upd _ h0 rfl, add_ok u F, addTx_ris _ _ r, l.imp id fun z => addTx_led _ _ z⟩ (fun z => List.mem_cons) (Nat.le_refl _) fun b hb => ?_
    exact Heap.get?_update_ne _ _ _ _ hb
/-- the walk of set(xs): each item goes in -/
theorem loop {I : Addr} {fp wr : List Addr} {G : Array GenState → Array GenState → Prop} {n : Nat} {Pv : Nat → Value → Prop} {St : Nat → Shared → Prop} {R : Result → Shared → Prop}
    (W : WalksS P w A.in1 I fp wr G n Pv St) (hp : a ∉ fp) (xs : List Str) (hn : n = xs.length) (hb : xs.length + 1 < scanBound) (val : ∀ i v, Pv i v → ∃ x u, xs[i]? = some x ∧ v = .str x u)
    (fin : ∀ s' L, Moved (a :: wr) G s s' → TS P w s'.heap a L → (∀ z, z ∈ L ↔ z ∈ xs) → L.length ≤ xs.length → R (.ok (.ret .none)) s') :
    ∀ (m i : Nat) (t : Shared) (L : List Str), n - i = m → i ≤ n → St i t → Moved (a :: wr) G s t → TS P w t.heap a L → (∀ z, z ∈ L ↔ z ∈ xs.take i) → L.length ≤ i →
      codeAny (model P w) A (.builtin "set.update.loop" ⟨[.ref a, .ref I], []⟩) R t := by
  have out : a ∉ wr := fun z => hp (W.sub _ z)
  have up : ∀ b ∈ wr, b ∈ a :: wr := fun b hb => List.mem_cons_of_mem _ hb
  intro m
  induction m with
  | zero =>
    intro i t L hm hi st mv T mem len
    have e : i = n := by omega
    refine codeAny_builtin F.entry_set_update_loop ?_
    rw [Around.under_plainId F.plain_set_update_loop _]
    unfold Builtin.«set.update.loop»
    refine wpAny_bind (W.done t _ _ (e ▸ st) fun s' mv' => ?_)
    refine wpAny_pure (fin s' L ?_ (T.at' fun o ho => mv'.heap a o out ho) (fun z => ?_) (by omega))
    · exact mv.trans W.gtrans (mv'.mono up)
    · rw [mem z, List.take_of_length_le (by omega)]
  | succ m ih =>
    intro i t L hm hi st mv T mem len
    refine codeAny_builtin F.entry_set_update_loop ?_
    rw [Around.under_plainId F.plain_set_update_loop _]
    unfold Builtin.«set.update.loop»
    refine wpAny_bind (W.item i t _ _ (by omega) st fun v t1 pv st1 mv1 => ?_)
    obtain ⟨x, u, hx, rfl⟩ := val i v pv
    have T1 : TS P w t1.heap a L := T.at' fun o ho => mv1.heap a o out ho
    dsimp only
    unfold setAdd
    refine wpAny_bind (wpAny_holding (wpAny_holding (wpAny_bind ((strKind P w).pyHash (k := x) (is_str x u) ?_))))
    refine put (s := { t1 with toks := t1.toks + 1 }) T1 (by omega) fun g L' b T2 mem' len' far => ?_
    have mv2 : Moved (a :: wr) G s { t1 with heap := g, toks := t1.toks + 1 } := Moved.trans W.gtrans mv ((mv1.mono up).then_heap (Nat.le_succ _) fun b o hb e => by
      rw [far b (fun z => hb (by rw [z]; exact List.mem_cons_self))]; exact e)
    refine wpAny_pure ⟨plainId_quiet F.plain_set_update_loop _, ih (i + 1) _ L' (by omega) (by omega) (W.frame _ t1 _ _ st1 (Nat.le_succ _) fun b hb o e => ?_) mv2 T2 (fun z => ?_) (by omega)⟩
    · rw [far b (fun z => hp (by rw [← z]; exact hb))]; exact e
    · rw [mem' z, mem z, List.take_add_one, hx]
      simp [or_comm]
theorem perm_of : ∀ (L ks : List Str), L.Nodup → (∀ x ∈ L, x ∈ ks) → ks.length ≤ L.length → ks.Perm L
  | [], ks, _, _, h => by
    have : ks = [] := List.eq_nil_of_length_eq_zero (by simpa using h)
    rw [this]
  | x :: L, ks, nd, sub, h => by
    obtain ⟨n1, n2⟩ := List.nodup_cons.mp nd
    have p := List.perm_cons_erase (sub x List.mem_cons_self)
    refine p.trans (.cons x (perm_of L (ks.erase x) n2 (fun y hy => ?_) ?_))
    · exact (List.mem_erase_of_ne (fun e : y = x => n1 (by rw [← e]; exact hy))).mpr (sub y (List.mem_cons_of_mem _ hy))
    · have := p.length_eq
      simp only [List.length_cons] at this h
      omega
/-- sorted(s) -/
theorem sorted_ts {Q : Value → Shared → Prop} (T : TS P w s.heap a L) (hh : A.handled = none) (h64 : L.length < 64)
    (hQ : ∀ s' p (out : List Value) (c : Nat) (ys : List Str), (∀ b o, s.heap.get? b = some o → s'.heap.get? b = some o) → s'.gens = s.gens → s'.os = s.os → s.heap.objs.size ≤ p →
      s'.heap.get? p = some (seqObj "list" out.toArray c) → StrsAre out ys → ys.Perm L → sortedS ys = true → Q (.ref p) s') :
    wpAny (model P w) A (call (.builtin "sorted") [.ref a]) Q E s := by
  obtain ⟨⟨es, ep, t⟩, h0, F, r, l⟩ := T.at_
  have sz : es.size = L.length := F.sz
  refine Calls.call_function_entry kind_sorted plain_sorted entry_sorted (args_sorted1 _) ?_
  unfold Builtin.«sorted»
  refine wpAny_bind (m := checkCount "sorted" 1 1 _) (wpAny_pure ?_)
  refine wpAny_bind (collect_set (A := A.in1) hh ⟨_, h0, rfl, rfl⟩ F.fit (by rw [sz]; unfold scanBound; omega) r l fun s1 vs k1 z1 g1 o1 pm => ?_)
  have len : vs.length = L.length := by rw [pm.length_eq, List.length_map, Array.length_toList, sz]
  have allS : ∀ v, v ∈ vs → ∃ x u, v = .str x u := fun v hv => by
    obtain ⟨e, he, rfl⟩ := List.mem_map.mp (pm.mem_iff.mp hv)
    obtain ⟨⟨k, q, _⟩, _⟩ := F.el e he
    obtain ⟨u, ev⟩ := Value.isStrOf_shape (x := k) (v := e.2) q
    exact ⟨k, u, ev⟩
  have S := strsAre_map vs allS
  have pL : (vs.map strOf).Perm L := perm_of L _ T.nd (fun x hx => by
    obtain ⟨e, he, q⟩ := (F.mem x).mp hx
    obtain ⟨u, ev⟩ := Value.isStrOf_shape (x := x) (v := e.2) q
    refine List.mem_map.mpr ⟨e.2, pm.mem_iff.mpr (List.mem_map.mpr ⟨e, he, rfl⟩), ?_⟩
    rw [ev] <;> rfl) (by rw [List.length_map, len]; exact Nat.le_refl _)
  refine wpAny_bind (wpAny_newList ?_ (by rw [len, sizeLine_eq]; omega))
  have new : (s1.heap.push (seqObj "list" vs.toArray 0)).get? s1.heap.objs.size = some (seqObj "list" vs.toArray 0) := Heap.get?_push_size _ rfl
  refine wpAny_bind (wpAny_holding (wpAny_call_entry slot_list_sort ⟨_, new, rfl⟩ entry_list_sort (list_sort_treeK strKind_oneLt new S.keysOf (fun v₁ v₂ rest e => keyKind_strs (by rw [← e]; exact S)) (by rw [len]; exact h64) fun st hp hs => ⟨_, rfl, ?_⟩) (args_list_sort _)))
  obtain ⟨ys, y1, y2, y3⟩ := sorted_out_str S hp hs
  obtain ⟨c, hc⟩ := sortedHeap_at (vs := vs) (out := (arrOf st).map (·.2)) new
  refine wpAny_pure ⟨_, rfl, hQ _ s1.heap.objs.size ((arrOf st).map (·.2)).toList c ys (fun b u e => ?_) g1 o1 z1 hc y1 (y2.trans pL) y3⟩
  have e1 := k1 b u e
  have lt := Heap.lt_size e1
  show (sortedHeap _ _ _ _).get? b = some u
  rw [sortedHeap_old (Nat.ne_of_lt lt) (by rw [size_push']; exact Nat.lt_succ_of_lt lt)]
  exact Heap.get?_push_of_some _ e1
end
end RT
namespace RL
open PySem PySem.Spec L2 OrdX
open PyProof.Rows hiding St
def TSO (P : Program) (w : World) (a : Addr) (L : List Str) : HO := .ext fun h => RT.TS P w h a L
section
variable {X : Cx} {E : XK} {a : Expr} {ma : SM W} {p1 p2 q pos : Pos}
def rSetT (X : Cx) : List V → Hp → VK → Prop := fun vs H Q => ∃ (l : Addr) (xs : List Str), vs = [V.ref l] ∧ SqL X.K H l (xs.map V.str) ∧ xs.length < 64 ∧ ∀ p L, H p = none → (∀ z, z ∈ L ↔ z ∈ xs) → L.length ≤ xs.length → Q (.ref p) (upd H p (TSO X.prog X.w p L))
theorem tso_ok {H : Hp} {h : Heap} {a : Addr} {L : List Str} (T : RT.TS X.prog X.w h a L) : ObjOk X.prog X.w H h a (TSO X.prog X.w a L) := by
  have ⟨_, e, _⟩ := T.at_
  exact ⟨T, ⟨_, e⟩, fun h1 h2 p k => RT.TS.at' p k⟩
theorem cr_setT (hc : X.calm = true) : CallR X (.type "set") (rSetT X) := by
  intro pins s σ H vs us Q I rv ⟨l, xs, e, hl, small, q⟩
  subst e
  rw [Vals.ref1 rv]
  obtain ⟨its, ri, pl, _⟩ := I.list hl
  have isl : s.heap.IsList l its.toArray := pl.isList
  have S : StrsAre its.toArray.toList xs := by rw [List.toList_toArray]; exact ri.strs
  have n : its.toArray.size = xs.length := by
    have := ri.strs.length
    simpa using this
  have far : l < s.heap.objs.size := by
    obtain ⟨o, ho, _⟩ := isl
    exact Heap.lt_size ho
  have z1 : (s.heap.push (RS.emp X.w)).objs.size = s.heap.objs.size + 1 := Heap.size_push ..
  have ne1 : l ≠ (s.heap.push (RS.emp X.w)).objs.size := by rw [z1]; exact Nat.ne_of_lt (Nat.lt_succ_of_lt far)
  have ne2 : s.heap.objs.size ∉ [(s.heap.push (RS.emp X.w)).objs.size, l] := by
    rw [z1]
    simp only [List.mem_cons, List.not_mem_nil, or_false, not_or]
    exact ⟨Nat.ne_of_lt (Nat.lt_succ_self _), Nat.ne_of_gt far⟩
  have ne3 : ∀ b, b < s.heap.objs.size → b ∉ [s.heap.objs.size, (s.heap.push (RS.emp X.w)).objs.size] := fun b hb => by
    rw [z1]
    simp only [List.mem_cons, List.not_mem_nil, or_false, not_or]
    exact ⟨Nat.ne_of_lt hb, Nat.ne_of_lt (Nat.lt_succ_of_lt hb)⟩
  refine RS.set_list (Z := fun g => ∃ L, RT.TS X.prog X.w g s.heap.objs.size L ∧ (∀ z, z ∈ L ↔ z ∈ xs) ∧ L.length ≤ xs.length) (I.ok.hd hc) isl (fun B t R hB _ ht hg hd ho hR => ?_) fun g tk ⟨L, T, m, len⟩ k => ?_
  · have W := (Walks.list (prog := X.prog) (w := X.w) (A := B.in1) (by simpa using hB) _ l ne1 its.toArray).toS
    have at0 : t.heap.get? s.heap.objs.size = some (RS.emp X.w) := by rw [ht]; exact Heap.get?_push_of_some _ (Heap.get?_push_size _ rfl)
    refine RT.loop (s := t) W (a := s.heap.objs.size) ne2 xs n (by unfold scanBound; omega) (fun i v hv => ?_) (fun s' L mv T m len => ?_) its.toArray.size 0 t [] (by omega) (Nat.zero_le _)
      ⟨by rw [ht]; exact ⟨_, Heap.get?_push_size _ rfl, rfl, rfl⟩, by rw [ht]; exact (isl.push _).push _⟩ ⟨fun _ _ _ h => h, W.grefl _, rfl, rfl, Nat.le_refl _⟩ (RT.TS.new at0) (fun z => by simp) (Nat.le_refl _)
    · have hv' : its.toArray.toList[i]? = some v := by rw [Array.getElem?_toList]; exact hv
      exact RT.strs_get S i v hv'
    · refine hR s' ⟨mv.gens.trans hg, mv.drawn.trans hd, mv.os.trans ho, fun b u e => ?_⟩ ⟨L, T, m, len⟩
      have lt := Heap.lt_size e
      refine mv.heap b u (ne3 b lt) (by rw [ht]; exact Heap.get?_push_of_some _ (Heap.get?_push_of_some _ e))
  · exact ⟨.ref s.heap.objs.size, upd H s.heap.objs.size (TSO X.prog X.w s.heap.objs.size L), I.laid (t' := tk) k (Nat.le_refl _) (tso_ok T), rfl, q _ L (I.hok.fresh (Nat.le_refl _)) m len⟩
def rSrtT (X : Cx) : List V → Hp → VK → Prop := fun vs H Q => ∃ (a : Addr) (L : List Str), vs = [V.ref a] ∧ H a = some (TSO X.prog X.w a L) ∧ L.length < 64 ∧
  ∀ (ys : List Str) (p : Addr), ys.Pairwise (fun a b => ltS a b = true) → (∀ z, z ∈ ys ↔ z ∈ L) → H p = none → Q (.ref p) (upd H p (.lst (ys.map V.str)))
theorem cr_srtT (hc : X.calm = true) : CallR X (.builtin "sorted") (rSrtT X) := by
  intro pins s σ H vs us Q I rv ⟨a, L, e, ha, small, q⟩
  subst e
  rw [Vals.ref1 rv]
  have T : RT.TS X.prog X.w s.heap a L := (I.hok a _ ha).1
  refine RT.sorted_ts T (I.ok.hd hc) small fun s' p out c ys k g o hp hg S pm so => ?_
  have len : (ys.map V.str).length ≤ sizeLine := by rw [List.length_map, pm.length_eq, sizeLine_eq]; omega
  have J : Inv X pins σ (upd H p (.lst (ys.map V.str))) { s with heap := s'.heap, gens := s'.gens, drawn := s'.drawn, toks := s'.toks } :=
    I.call (ch := []) (Un.laid k hp (I.hok.fresh hp)) (I.hok.laid k hp ⟨len, out, c, vals_of_strs S, hg⟩) (by rw [g]; exact I.bare) (fun _ z => nomatch z)
  have e : s' = { s with heap := s'.heap, gens := s'.gens, drawn := s'.drawn, toks := s'.toks } := by
    cases s'; cases s; cases o; rfl
  rw [e]
  refine ⟨.ref p, _, J, rfl, q ys p ?_ (fun z => pm.mem_iff) (I.hok.fresh hp)⟩
  have nd : ys.Nodup := pm.nodup_iff.mpr T.nd
  refine ((sortedS_pw so).and nd).imp fun {x y} h => ?_
  rcases totS.tri x y h.2 with z | z
  · exact z
  · rw [h.1] at z; cases z
/-- sorted(set(xs)) of texts -/
def gSrtSetS (w : W) (S : Store) : Res W := match (seqL S w).bind strsW with
  | some xs => if xs.length < 64 then .ok (.lst ((usrt ltS xs).map .str)) S else .bad
  | none => .bad
theorem pm_srtsetS (hc : X.calm = true) (hg : Gl X "sorted") (hm : X.mg "sorted" = none) (hg2 : Gl X "set") (hm2 : X.mg "set" = none) (ha : PM X E a ma) (hs : starEach [a] X.env = [(false, eval a X.env)] := by rfl)
    (hs2 : starEach [Expr.Call (.Name "set" p2) [a] [] q] X.env = [(false, eval (Expr.Call (.Name "set" p2) [a] [] q) X.env)] := by rfl) : PM X E (.Call (.Name "sorted" p1) [.Call (.Name "set" p2) [a] [] q] [] pos) (mUn gSrtSetS ma) := by
  have h1 := pe_callTy (p := p2) (pos := q) (cr_setT (X := X) hc) hg2 hm2 (by decide +kernel) (pa_cons ha pa_nil hs) (by decide +kernel) (by decide +kernel) hs rfl
  have h2 := pe_callB (p := p1) (pos := pos) (cr_srtT (X := X) hc) hg hm (by decide +kernel) (pa_cons h1 pa_nil hs2) (by decide +kernel) (by decide +kernel) hs2 rfl
  refine pe_imp h2 fun σ H Q h => ?_
  show tE X E ma σ H fun x H1 => _
  refine tX.bind (m := ma) (k := fun w s S => gSrtSetS w S) h fun ρ H1 w x s S1 rep env r o => ?_
  unfold gSrtSetS at o
  cases e : (seqL S1 w).bind strsW with
  | none => rw [e] at o; exact o.elim
  | some xs =>
    rw [e] at o
    dsimp only at o
    split at o
    · rename_i small
      obtain ⟨l, rfl, hl⟩ := strsW_at rep r e
      refine ⟨l, xs, rfl, hl, small, fun p L hp mem len => ⟨p, L, rfl, upd_same, by omega, fun ys p3 pw my hp3 => ?_⟩⟩
      obtain ⟨e3, rep3⟩ := rep.tree hp (TSO X.prog X.w p L)
      have eq : ys = usrt ltS xs := usrt_eq totS (fun z => (my z).trans (mem z)) pw
      subst eq
      have e4 := out_lst (E := E) (fun ρ' H' v ex => o ρ' H' v (e3.trans ex)) rep3 hp3 (strs_rws _)
      exact e4
    · exact o.elim
end
end RL
end

section
set_option maxRecDepth 100000
set_option maxHeartbeats 4000000
/-! ==, !=, str(x), repr(x) of own objects -/
namespace PySem.W
open PySem PySem.Spec PySem.Calls PyProof.Rows
section
variable {prog : Program} {w : World} {A : Around} {E : Value → Shared → Prop} {s : Shared} {K : Frag} {x C f : Addr} {ox : Obj} {od : Option Obj} {b tb : Value}
theorem rn_special {M : Model} {name : Str} {id : String} {args : List Value} {Q : Option Value → Shared → Prop} (X : K.In s.heap) (I : InstAt s.heap x ox C od) (hs : findIn K (.ref C) name = some (some (.builtin id)))
    (hb : ∀ self, bindSpecial (.builtin id) self = pure (.builtin id, [self])) (h : wpAny M A (call (.builtin id) (.ref x :: args)) (fun v => Q (some v)) E s) : wpAny M A (callSpecialIfBound? (.ref x) name args) Q E s := by
  simp only [callSpecialIfBound?, bindSpecialIfBound?]
  have done : wpAny M A (call (.builtin id) ([.ref x] ++ args) >>= fun v => pure (some v)) Q E s := wpAny_bind (wpAny_mono h (fun v s' q => wpAny_pure q) fun _ _ q => q)
  have B := Looks.of_pure (M := M) (h := s.heap) (hb (.ref x))
  refine wpAny_holding (wpAny_bind (wpAny_bind (wpAny_bind (I.type.here ((looks_findIn X hs).here (wpAny_bind (wpAny_askSetting (wpAny_ite ?_))))))))
  split
  · exact wpAny_bind (B.here (wpAny_pure done))
  · exact wpAny_tryCatch (wpAny_bind (B.here (wpAny_pure done)))
open Builtin in
/-- x != b by x's own __eq__ -/
theorem rn_ne {Q : Value → Shared → Prop} (hu : A.units < cLine) (hu1 : A.in1.units < cLine) (X : K.In s.heap) (I : InstAt s.heap x ox C od) (hb : Looks (model prog w) s.heap (typeOf b) tb) (hn : notFirst K C tb = true) (hm : mroIn K C (.type "object") = some true)
    (h1 : findIn K (.ref C) "__ne__" = some (some (.builtin "object.__ne__"))) (h2 : findIn K (.ref C) "__eq__" = some (some (.ref f))) (hf : isFn K (.ref f) = true)
    (h : wpAny (model prog w) A.in1 (call (.ref f) [.ref x, b]) (fun v s' => ∃ c, v = .bool c ∧ Q (.bool (!c)) s') E s) : wpAny (model prog w) A (richCompare .NotEq (.ref x) b) Q E s := by
  have inner : wpAny (model prog w) A (call (.builtin "object.__ne__") [.ref x, b]) (fun v s' => ∃ c, v = .bool c ∧ Q v s') E s := by
    refine wpAny_call (codeAny_call_builtin PySem.F.cmp_object.ne.plain PySem.F.cmpEntry_ne (check_slot PySem.F.cmpKind_ne PySem.F.cmpSplit_ne (I.type.andThen (looks_mroIn X hm)) (PySem.F.cmpArgs_ne _ _) ?_))
    unfold Builtin.«object.__ne__»
    refine wpAny_bind (m := slotArgs "__ne__" 1 _) (wpAny_pure ?_)
    refine wpAny_bind (m := cRoomFor _ _) (wpAny_cRoomFor hu1 ?_)
    refine wpAny_bind (m := callSpecialIfBound? (.ref x) (Str.ofString "__eq__") [b]) (ifBound_K X I h2 hf (wpAny_mono h (fun v s' q => ?_) fun _ _ e => e))
    obtain ⟨c, rfl, q⟩ := q
    refine wpAny_bind (m := truthy (.bool c)) (wpAny_truthy_bool ?_)
    exact wpAny_pure ⟨_, rfl, q⟩
  unfold richCompare
  simp only [oneThing_ref]
  refine wpAny_holding (wpAny_bind (wpAny_cRoomFor hu (wpAny_bind (I.type.here (wpAny_bind (hb.here ?_))))))
  have one : wpAny (model prog w) A (tryCompare (.ref x) (cmpInfo .NotEq).2.1 b) (fun r s' => ∃ v, r = some v ∧ Q v s') E s := by
    unfold tryCompare
    refine wpAny_bind (rn_special X I h1 PySem.F.cmp_object.ne.bind (wpAny_mono inner (fun v s' q => ?_) fun _ _ e => e))
    obtain ⟨c, rfl, q⟩ := q
    exact wpAny_pure ⟨_, rfl, q⟩
  split
  · rename_i q
    have no : subIn K tb (.ref C) = some false := by
      rcases Bool.or_eq_true_iff.mp hn with e | e
      · rw [beq_iff_eq.mp e] at q; simp at q
      · exact beq_iff_eq.mp e
    refine wpAny_bind ((looks_subIn X no).here ?_)
    simp only [Bool.false_eq_true, if_false]
    refine wpAny_bind (wpAny_mono one (fun r s' z => ?_) fun _ _ e => e)
    obtain ⟨v, rfl, z⟩ := z
    exact wpAny_pure z
  · refine wpAny_bind (wpAny_pure ?_)
    simp only [Bool.false_eq_true, if_false]
    refine wpAny_bind (wpAny_mono one (fun r s' z => ?_) fun _ _ e => e)
    obtain ⟨v, rfl, z⟩ := z
    exact wpAny_pure z
end
end PySem.W
namespace RL
open PySem PySem.Spec L2 OrdX
open PyProof.Rows hiding St
/-- what a class's == wants of the text -/
structure OwnEq (K : PySem.W.Frag) (C : Addr) : Prop where
  same : PySem.W.notFirst K C (.ref C) = true
  str : PySem.W.notFirst K C (.type "str") = true
  obj : PySem.W.mroIn K C (.type "object") = some true
  ne : PySem.W.findIn K (.ref C) "__ne__" = some (some (.builtin "object.__ne__"))
def gOwnEq (c : Str) (neg : Bool) (base : W → W → Store → Res W) (g : Fn) (w1 w2 : W) (S : Store) : Res W :=
  if isIns c w1 = true then (if (isIns c w2 || isStr w2) = true then (g [w1, w2] S).bind fun v S' => match v with
    | .bl b => .ok (.bl (xorB neg b)) S'
    | _ => .bad else .bad) else if isIns c w2 = true then .bad else base w1 w2 S
/-- str(x), repr(x) -/
def gOwnS (c : Str) (g : Fn) (w : W) (S : Store) : Res W := if isIns c w = true then (g [w] S).bind fun v S' => match v with
    | .str z => .ok (.str z) S'
    | _ => .bad else .bad
section
variable {X : Cx} {E : XK} {c m q : Str} {k k' : Nat} {st : Stmt} {ps : List Str} {g : Fn} {base : W → W → Store → Res W}
theorem run_at {A : Around} {CX : CXT} {f : Addr} {fd : FuncData} {sp : Sp} {pins : List (Addr × Obj)} {σ : L2.St} {H : Hp} {s : Shared} {Q : VK} {us : List Value} {vs : List V} (hA : A.frames = X.A.frames) (F : FnOk X.prog X.w X.K X.mg X.base CX k f fd ps sp) (hr : Room k A) (hb : Binds X.K fd ps []) (hx : Passes CX X E)
    (I : Inv X pins σ H s) (r : Vals vs us) (h : sp vs H Q E) : wpAny (model X.prog X.w) A (call (.ref f) us) (EP X pins σ Q) X.xe s := by
  have I0 : Env0 X.prog X.w X.K X.mg X.base A X.stack s H := { I.env0 with frames := hA.trans I.env0.frames }
  have n : (us ++ []).length = ps.length := by rw [List.append_nil, ← r.length]; exact F.len _ _ _ _ h
  have b := hb s us I.kIn n
  rw [List.append_nil] at b
  refine wpAny_call (codeAny_mono (F.run A X.stack s H ⟨us, []⟩ us vs Q E hr I0 b r h) fun r s' z => ?_)
  cases r with
  | error e => exact hx pins σ H s e s' I z
  | ok fl => cases fl with
    | ret u => exact I.after z
    | _ => exact z.elim
theorem om_ownEq (hop : ∀ C, X.mg c = some (.ref C) → OwnEq X.K C) (F : MeE X.prog X.w X.K X.mg X.base k c "__eq__" q st ps g) (hr : Room k' X.A) (hk : k + 2 ≤ k') (tk : Takes X (fun c d _ H => E c d H)) (hn : ps.length = 2) (neg : Bool) {op : CmpOp} (hop2 : op = if neg then .NotEq else .Eq)
    (hb : OpM X E (compareOp op) base) : OpM X E (compareOp op) (gOwnEq c neg base g) := by
  intro pins s σ H x y v u Q I rx ry ⟨ρ, S, w1, w2, rep, r1, r2, o⟩
  obtain ⟨C, f, fd, a1, a2, a3, a4, a5, a6⟩ := F
  have O := hop C a1
  rw [hn] at a6
  unfold gOwnEq at o
  obtain ⟨m, hF⟩ := I.fr
  have r0 : Room (k + 2) X.A := hr.mono hk
  split at o
  · rename_i h1
    split at o
    · rename_i h2
      obtain ⟨a, dx, fs, rfl, ha⟩ := ins_of a1 r1 h1
      obtain ⟨ox, od, J, _⟩ := inst_of I ha
      obtain rfl : v = Value.ref a := rx
      have back : ∀ (A : Around), A.frames = X.A.frames → Room k A → wpAny (model X.prog X.w) A (call (.ref f) [.ref a, u]) (fun v s' => ∃ b, v = .bool b ∧ EP X pins σ Q (.bool (xorB neg b)) s') X.xe s := fun A hA rA => by
        refine thn (run_at (A := A) (Q := fun x H' => ∃ b, x = .bl b ∧ Q (.bl (xorB neg b)) H') hA (us := [.ref a, u]) (vs := [.ref a, y]) a6 rA a5 (passM tk) I (.cons rfl (.cons ry .nil)) ⟨ρ, S, [w1, w2], rep, .cons r1 (.cons r2 .nil), rfl, ?_⟩) ?_
        · refine Out.bind o fun ρ1 H1 z b S1 ex rep1 rz o1 => ?_
          cases z with
          | bl t =>
            cases rz
            exact ⟨t, rfl, Out.here o1 rep1 (.bl _)⟩
          | _ => exact o1.elim
        · rintro v s' ⟨x, H1, I1, rv, b, rfl, z⟩
          cases rv
          exact ⟨b, rfl, .bl (xorB neg b), H1, I1, rfl, z⟩
      have tb : ∃ tb, PySem.W.Looks (model X.prog X.w) s.heap (typeOf u) tb ∧ PySem.W.notFirst X.K C tb = true := by
        rw [Bool.or_eq_true] at h2
        rcases h2 with h2 | h2
        · obtain ⟨a', dx', fs', rfl, ha'⟩ := ins_of a1 r2 h2
          obtain ⟨ox', od', J', _⟩ := inst_of I ha'
          obtain rfl : u = Value.ref a' := ry
          exact ⟨_, J'.type, O.same⟩
        · cases w2 with
          | str z =>
            cases r2
            obtain ⟨t, rfl⟩ := ry
            exact ⟨_, PySem.W.Looks.of_pure rfl, O.str⟩
          | _ => cases h2
      obtain ⟨tb, lk, nf⟩ := tb
      cases neg with
      | false =>
        have e : op = .Eq := hop2
        subst e
        refine PySem.W.cmp_ofEq (PySem.W.cmp_K r0.units0 hF I.ok.mod.kin J lk nf a3.at_ a3.fn (thn (back X.A rfl (r0.mono (by omega))) fun v s' h => ?_))
        obtain ⟨b, rfl, h⟩ := h
        exact h
      | true =>
        have e : op = .NotEq := hop2
        subst e
        have r1' : Room (k + 1) X.A.in1 := Room.in1 r0
        refine PySem.W.cmp_ofNotEq (PySem.W.rn_ne r0.units0 r1'.units0 I.kIn J lk nf O.obj O.ne a3.at_ a3.fn (thn (back X.A.in1 rfl (r1'.mono (by omega))) fun v s' h => ?_))
        obtain ⟨b, rfl, h⟩ := h
        exact ⟨b, rfl, h⟩
    · exact o.elim
  · split at o
    · exact o.elim
    · exact hb pins s σ H x y v u Q I rx ry ⟨ρ, S, w1, w2, rep, r1, r2, o⟩
theorem ownS {nm : Str} (F : MeE X.prog X.w X.K X.mg X.base k c nm q st ps g) (tk : Takes X (fun c d _ H => E c d H)) (hn : ps.length = 1) {pins : List (Addr × Obj)} {s : Shared} {σ : L2.St} {H : Hp} {x : V} {us : List Value} {Q : VK} {ρ : RT} {S : Store} {w : W} (I : Inv X pins σ H s) (r : Vals [x] us) (rep : RepS X.K X.mg ρ H S) (rw' : RW X.K X.mg ρ H w x) (o : Out X.K X.mg (RW X.K X.mg) E ρ H (gOwnS c g w S) Q) :
    ∃ C f a ox od, us = [Value.ref a] ∧ PySem.W.InstAt s.heap a ox C od ∧ X.mg c = some (.ref C) ∧ Meth X.K C nm f ∧ ∀ (A : Around), A.frames = X.A.frames → Room k A → wpAny (model X.prog X.w) A (call (.ref f) [.ref a]) (PySem.W.StrBack (EP X pins σ Q)) X.xe s := by
  obtain ⟨C, f, fd, a1, a2, a3, a4, a5, a6⟩ := F
  rw [hn] at a6
  unfold gOwnS at o
  split at o
  · rename_i h1
    obtain ⟨a, dx, fs, rfl, ha⟩ := ins_of a1 rw' h1
    obtain ⟨ox, od, J, _⟩ := inst_of I ha
    have eu := Vals.ref1 r
    subst eu
    refine ⟨C, f, a, ox, od, rfl, J, a1, a3, fun A hA rA => ?_⟩
    refine thn (run_at (A := A) (Q := fun x H' => ∃ z, x = .str z ∧ Q (.str z) H') hA (us := [.ref a]) (vs := [.ref a]) a6 rA a5 (passM tk) I r ⟨ρ, S, [w], rep, .cons rw' .nil, rfl, ?_⟩) ?_
    · refine Out.bind o fun ρ1 H1 z b S1 ex rep1 rz o1 => ?_
      cases z with
      | str t =>
        cases rz
        exact ⟨t, rfl, Out.here o1 rep1 (.str _)⟩
      | _ => exact o1.elim
    · rintro v s' ⟨x, H1, I1, rv, b, rfl, z⟩
      obtain ⟨t, rfl⟩ := rv
      exact ⟨.str b, H1, I1, ⟨t, rfl⟩, z⟩
  · exact o.elim
theorem cm_ownStr (F : MeE X.prog X.w X.K X.mg X.base k c "__str__" q st ps g) (hr : Room k' X.A) (hk : k + 2 ≤ k') (tk : Takes X (fun c d _ H => E c d H)) (hn : ps.length = 1) : CallM X E (.type "str") (g1 (gOwnS c g)) := cm1 fun pins s σ H x us Q ρ S w I r rep rw' o => by
  obtain ⟨C, f, a, ox, od, rfl, J, _, M, run⟩ := ownS F tk hn I r rep rw' o
  have r0 : Room (k + 2) X.A := hr.mono hk
  have r2 : Room k X.A.in1.in1 := Room.in1 (Room.in1 r0)
  exact PySem.W.kso_call r2.units0 I.kIn J M.at_ M.fn (run _ rfl r2)
theorem cm_ownRepr (F : MeE X.prog X.w X.K X.mg X.base k c "__repr__" q st ps g) (hr : Room k' X.A) (hk : k + 2 ≤ k') (tk : Takes X (fun c d _ H => E c d H)) (hn : ps.length = 1) : CallM X E (.builtin "repr") (g1 (gOwnS c g)) := cm1 fun pins s σ H x us Q ρ S w I r rep rw' o => by
  obtain ⟨C, f, a, ox, od, rfl, J, _, M, run⟩ := ownS F tk hn I r rep rw' o
  have r0 : Room (k + 2) X.A := hr.mono hk
  have r1 : Room (k + 1) X.A.in1 := Room.in1 r0
  obtain ⟨m, hF⟩ := I.fr
  exact PySem.W.repr_K r1.units0 hF I.ok.mod.kin J M.at_ M.fn (run _ rfl (r1.mono (by omega)))
end
section
variable {K : PySem.W.Frag} {mg : Str → Option Value} {h : Heap} {c : Str}
theorem ownEq_mk {C0 : Addr} (X : K.In h) (G : h.Ns mainGlobals mg) (a : PySem.W.nsIn K mainGlobals c = some (some (.ref C0))) (e1 : PySem.W.notFirst K C0 (.ref C0) = true) (e2 : PySem.W.notFirst K C0 (.type "str") = true) (e3 : PySem.W.mroIn K C0 (.type "object") = some true)
    (e4 : PySem.W.findIn K (.ref C0) "__ne__" = some (some (.builtin "object.__ne__"))) : ∀ C, mg c = some (.ref C) → OwnEq K C := fun C hC => by
  have h0 := PySem.W.mg_of X G a
  rw [hC] at h0; cases h0
  exact ⟨e1, e2, e3, e4⟩
end
end RL
end

section
set_option maxRecDepth 100000
set_option maxHeartbeats 4000000
/-! static methods by keyword, a list of the store made by + -/
namespace RL
open PySem PySem.Spec L2 OrdX
open PyProof.Rows hiding St
section
variable {X : Cx} {E : XK} {pos apos p : Pos} {kws : List Keyword} {mk : SM (List W)} {c m q x : Str} {n k k' : Nat} {st : Stmt} {ps : List Str} {g : Fn} {pl : Sem Bool}
theorem kw_runQ {f : Addr} {fd : FuncData} {idx : List Nat} {ks : List Str} (F : Fun X.K m q st f fd) (h4 : FnM X.prog X.w X.K X.mg X.base k f fd ps ps.length g) (hr : Room k X.A) (tk : Takes X (fun c d _ H => E c d H)) {nb : Nat} (hks : ks.length = nb)
    (hb : ∀ (kV doc pm : Value) (an : Option Addr) (cdv ct : Value) (us ws : List Value), us.length = n → ws.length = nb → bindArgs (PySem.W.fnOf m q (defArgs st) (defBody st) (defScope st) .none kV doc pm an cdv ct) ⟨us, ks.zip ws⟩ = pure (ps.zip (pIdx idx (us ++ ws))))
    {pins : List (Addr × Obj)} {σ : L2.St} {H : Hp} {s : Shared} {Q : VK} {us ws : List Value} {vs zs : List V} (I : Inv X pins σ H s) (r : Vals vs us) (rz : Vals zs ws) (l1 : vs.length = n) (l2 : zs.length = nb) (h : spM X.K X.mg ps.length g (pIdx idx (vs ++ zs)) H Q E) : wpAny (model X.prog X.w) X.A (call (.ref f) us (ks.zip ws)) (EP X pins σ Q) X.xe s := by
  obtain ⟨oc, od, kV, doc, pm, an, cdv, ct, osl, rfl, _, _⟩ := F.ex
  refine wpAny_call (codeAny_mono (h4.run X.A X.stack s H ⟨us, ks.zip ws⟩ (pIdx idx (us ++ ws)) (pIdx idx (vs ++ zs)) Q E hr I.env0 (.of_eq (hb kV doc pm an cdv ct us ws (r.length.symm.trans l1) (rz.length.symm.trans l2))) (pIdx_vals (r.append rz)) h) fun r s' z => ?_)
  cases r with
  | error e => exact passM tk pins σ H s e s' I z
  | ok fl => cases fl with
    | ret u => exact I.after z
    | _ => exact z.elim
/-- what the keywords' values are worth to the callee -/
theorem kw_sp {nb : Nat} [hl : Len mk nb] {idx : List Nat} (hidx : idx.all (· < 0 + nb) = true) (hil : idx.length = ps.length) {σ : L2.St} {H : Hp} {Q : VK} (h : tE X E (mCallK idx g mNil mk) σ H Q) :
    tA X E mk σ H (fun zs H2 => zs.length = nb ∧ spM X.K X.mg ps.length g (pIdx idx ([] ++ zs)) H2 Q E) := by
  obtain ⟨ρ, s, S, rep, env, o⟩ := h
  have o : Out X.K X.mg (RW X.K X.mg) E ρ H ((mk s S).bind fun ws S2 => g (pIdx idx ([] ++ ws)) S2) Q := o
  refine ⟨ρ, s, S, rep, env, ?_⟩
  cases e : mk s S with
  | ok ws S1 =>
    rw [e] at o
    have nw := hl.len _ _ _ _ e
    refine fun ρ1 H1 zs x rep1 r => ⟨by rw [← r.length]; exact nw, ρ1, S1, pIdx idx ([] ++ ws), rep1, pIdx_rws (by simpa using r), ?_, Out.ext x o⟩
    rw [pIdx_len fun i hi => ?_, hil]
    have := of_decide_eq_true (List.all_eq_true.mp hidx i hi)
    rw [List.nil_append, nw]
    omega
  | exc c ns ws S1 => rw [e] at o; exact o
  | bad => rw [e] at o; exact o
/-- C.m(k = v, ..) -/
theorem pm_statK0 {nb : Nat} [hl : Len mk nb] (idx : List Nat) (ks : List Str) (F : StE X.prog X.w X.K X.mg X.base k c m q st ps g) (hr : Room k' X.A) (hk : k ≤ k') (tk : Takes X (fun c d _ H => E c d H)) (hkw : PKM X E kws mk)
    (hb : ∀ (kV doc pm : Value) (an : Option Addr) (cdv ct : Value) (us ws : List Value), us.length = 0 → ws.length = nb → bindArgs (PySem.W.fnOf m q (defArgs st) (defBody st) (defScope st) .none kV doc pm an cdv ct) ⟨us, ks.zip ws⟩ = pure (ps.zip (pIdx idx (us ++ ws))))
    (hidx : idx.all (· < 0 + nb) = true := by decide) (hil : idx.length = ps.length := by rfl) (hkl : ks.length = nb := by rfl) (hks : (backToKw pos (keywordEach kws X.env)).filterMap (·.1) = ks := by rfl)
    (hall : (backToKw pos (keywordEach kws X.env)).all (·.1.isSome) = true := by rfl) (hg : Gl X c := by rfl) (hdb : (c == ("__debug__" : Str)) = false := by decide +kernel)
    (hpl : ((backTo pos (starEach [] X.env)).any (·.1) || (backToKw pos (keywordEach kws X.env)).any (·.1.isNone)) = false := by rfl)
    (ht : eval (.Call (.Attribute (.Name c p) m apos) [] kws pos) X.env = (do
      let ov ← eval (.Name c p) X.env
      standAt apos.atName
      let (f, first) ← holding [ov] (getMethod ov m pl)
      callWith pos f first (backTo pos (starEach [] X.env)) (backToKw pos (keywordEach kws X.env))) := by rfl) : PM X E (.Call (.Attribute (.Name c p) m apos) [] kws pos) (mCallK idx g mNil mk) := by
  obtain ⟨C, f, fd, h1, h2, h4, h5, h6⟩ := F
  refine ⟨fun pins s σ H Q I h => ?_⟩
  refine PySem.W.methodCall_KW (pl := pl) (thn ((pe_glob (v := .ref C) (pos := p) hg h1 rfl hdb).run pins s σ H (fun v H1 => v = .ref C ∧ H1 = H) I ⟨rfl, rfl⟩) fun u s1 ⟨x, H1, I1, rx, ex, eH⟩ => ?_) ht
  subst ex eH
  obtain rfl : u = Value.ref C := rx
  refine getsm_ok I1 h2 fun s2 I2 => ?_
  refine PySem.W.callWith_KW0 (first := []) (h₀ := X.base) I2.ok.mod.kin h4.kp hall ?_ hpl
  refine thn (hkw.run pos pins s2 σ H1 _ I2 (kw_sp hidx hil h)) fun ws s3 ⟨zs, H2, I3, rz, l2, q2⟩ => ⟨I3.kIn, ?_⟩
  rw [hks]
  exact kw_runQ (n := 0) (us := []) (vs := []) h4 h6 (hr.mono hk) tk hkl hb I3 .nil rz rfl l2 q2
end
/-- xs + ys, a list that will be changed -/
def gAddR (w1 w2 : W) (S : Store) : Res W := match seqM S w1, seqM S w2 with
  | some a, some b => if a.length + b.length ≤ lim then .ok (.ref S.length) (S ++ [.lst (a ++ b)]) else .bad
  | _, _ => .bad
section
variable {X : Cx} {E : XK}
theorem om_addR : OpM X E (binaryOp .Add) gAddR := by
  intro pins s σ H x y v u Q I rx ry ⟨ρ, S, w1, w2, rep, r1, r2, o⟩
  unfold gAddR at o
  cases e1 : seqM S w1 with
  | none => rw [e1] at o; exact o.elim
  | some a =>
    cases e2 : seqM S w2 with
    | none => rw [e1, e2] at o; exact o.elim
    | some b =>
      rw [e1, e2] at o
      dsimp only at o
      split at o
      · rename_i hz
        obtain ⟨p, xs, rfl, hp, q1⟩ := seqM_of rep r1 e1
        obtain ⟨q, ys, rfl, hq, q2⟩ := seqM_of rep r2 e2
        exact op_cat pins s σ H _ _ v u Q I rx ry ⟨p, q, xs, ys, rfl, rfl, hp, hq, by rw [← q1.length, ← q2.length]; exact lim_line hz, fun l hl => out_new o rep hl fun e => .lst upd_same ((q1.append q2).ext e)⟩
      · exact o.elim
end
end RL
end

section
set_option maxRecDepth 100000
set_option maxHeartbeats 4000000
/-! own exceptions: they are made by an __init__ that says super().__init__(..) and keeps its arguments -/
namespace REX
open PySem PySem.Spec PySem.Calls PyProof.Rows PySem.W
open Builtin Builtin.ObjectAttr
section
variable {prog : Program} {w : World} {M : Model} {A : Around} {E : Value → Shared → Prop} {h : Heap} {g : Array GenState} {d : Drawn} {t : Nat} {os : OsState} {K : Frag} {C : Addr} {B newId initId : String} {bmB : List Value}
/-- ValueError.__init__, bound to the new exception at e, is called -/
theorem bound_call {u e t0 : Addr} {rest : List Value} {Q : Value → Shared → Prop} (X : K.In h) (q : excInitIn K C bmB newId = true) (FB : ExcBaseFacts B newId initId bmB) (he : h.get? e = some (excObj C t0 none .none)) (hu : h.get? u = some (kxs_mw initId e)) (hz : rest.length ≤ sizeLine)
    (k : ∀ h' t1, (∀ b o, b ≠ e → h.get? b = some o → h'.get? b = some o) → h'.get? e = some (excObj C t1 none .none) → Q .none ⟨h', g, d, t, os⟩) : wpAny (model prog w) A (call (.ref u) rest) Q E ⟨h, g, d, t, os⟩ := by
  obtain ⟨nm, N', qn, bs, bm, hdct, sn, sub, ab, col, dd, k0, k1, k2, k3, k5, hC, _⟩ := excInit_of X q
  refine wpAny_call (codeAny_of_tree ?_)
  show wpAny _ A.in1 (callAny (.ref u) ⟨rest, []⟩) _ _ _
  unfold callAny
  refine wpAny_bind (wpAny_load hu ?_)
  refine KFB.if_so rfl ?_
  refine wpAny_bind (check_bound_init FB.toExcCallFacts hC he rfl (wpAny_bind (wpAny_pure (wpAny_pure ⟨plainId_quiet FB.init.plain _, codeAny_builtin FB.initEntry ?_⟩))))
  exact exc_init_tree (cls := .ref C) (t0 := t0) (dv := none) (c2 := .none) (c3 := .none) (b4 := .bool false) he hz fun h' keep at' _ => k h' _ keep at'
/-- a = v on an exception without a dict -/
theorem set_first {x : Addr} {t0 : Addr} {name : Str} {v : Value} {cd : ClassData} {Q : Unit → Shared → Prop} (SF : StoreFacts B bmB "object.__setattr__" "object") (X : K.In h) (hx : h.get? x = some (excObj C t0 none .none)) (ov : excOver K C bmB = true) (tk : takerIn K C name = some none)
    (hc : clsIn K C = some cd) (hd : cd.hasDict = true) (sa : findIn K (.ref C) "__setattr__" = some (some (.builtin "object.__setattr__")))
    (k : ∀ h' tk' dx, (∀ b o, b ≠ x → h.get? b = some o → h'.get? b = some o) → h.objs.size ≤ dx → dx ≠ x → h'.get? x = some (excObj C t0 (some dx) .none) → h'.Ns1 dx (fun y => if y = name then some v else none) → Q () ⟨h', g, d, tk', os⟩) :
    wpAny (model prog w) A (setAttr (.ref x) name v) Q E ⟨h, g, d, t, os⟩ := by
  have I : InstAt h x (excObj C t0 none .none) C none := ⟨hx, rfl, rfl, trivial⟩
  have far : x ≠ h.objs.size := Nat.ne_of_lt (Heap.lt_size hx)
  refine set_plain X I sa (osa_openX SF X I ov tk fun b => ?_)
  have L : Looks (model prog w) h (classData C) cd := looks_clsIn X hc
  obtain ⟨nm, bs, mro, ns, qn, hdd, sn, sb, ab, col, del⟩ := cd
  dsimp only at hd
  subst hd
  dsimp only
  unfold storeInOwnDict ownDictForStores
  repeat (first | with_reducible refine PySem.HandSPX.store_in_new ?_ ?_ | with_reducible refine wpAny_loadPart_at hx ?_ | with_reducible refine L.at ?_ | wp_step)
  · exact ⟨_, #[], _, (Heap.get?_update_ne _ _ _ _ far.symm).trans (Heap.get?_push_at rfl rfl), rfl, fun e he => absurd he (by simp), fun _ => rfl⟩
  · intro h' tk' hn sb'
    refine k h' tk' h.objs.size (fun b o hb ho => ?_) (Nat.le_refl _) far.symm ?_ hn
    · exact (sb'.2 b (Nat.ne_of_lt (Heap.lt_size ho))).trans ((Heap.get?_update_ne _ _ _ _ hb).trans (Heap.get?_push_of_some _ ho))
    · exact (sb'.2 x far).trans (Heap.get?_update_self _ (Heap.get?_push_of_some _ hx) rfl)
/-- .. on one that has a dict -/
theorem set_next {x dx : Addr} {t0 : Addr} {name : Str} {v : Value} {cd : ClassData} {m0 : Str → Option Value} {nl : List Str} {Q : Unit → Shared → Prop} (SF : StoreFacts B bmB "object.__setattr__" "object") (X : K.In h) (hx : h.get? x = some (excObj C t0 (some dx) .none)) (hn : h.Ns1 dx m0) (hw : Within m0 nl) (hz : nl.length ≤ 1000)
    (ov : excOver K C bmB = true) (tk : takerIn K C name = some none) (hc : clsIn K C = some cd) (hd : cd.hasDict = true) (sa : findIn K (.ref C) "__setattr__" = some (some (.builtin "object.__setattr__")))
    (k : ∀ h' tk', (∀ b o, b ≠ dx → h.get? b = some o → h'.get? b = some o) → h'.Ns1 dx (fun y => if y = name then some v else m0 y) → Q () ⟨h', g, d, tk', os⟩) :
    wpAny (model prog w) A (setAttr (.ref x) name v) Q E ⟨h, g, d, t, os⟩ := by
  obtain ⟨oD, _, _, hoD, _, _⟩ := hn.count hw
  have I : InstAt h x (excObj C t0 (some dx) .none) C (some oD) := ⟨hx, rfl, rfl, hoD⟩
  refine set_plain X I sa (osa_openX SF X I ov tk fun b => ?_)
  have L : Looks (model prog w) h (classData C) cd := looks_clsIn X hc
  obtain ⟨nm, bs, mro, ns, qn, hdd, sn, sb, ab, col, del⟩ := cd
  dsimp only at hd
  subst hd
  dsimp only
  unfold storeInOwnDict ownDictForStores
  repeat (first | with_reducible refine PySem.OEX.store_in_old hn hw hz ?_ | with_reducible refine wpAny_loadPart_at hx ?_ | with_reducible refine L.at ?_ | wp_step)
  intro h' tk' hn' sb'
  exact k h' tk' (fun b o hb ho => (sb'.2 b hb).trans ho) hn'
/-- self.f = literal | parameter, in a row -/
inductive Asn (self : Str) : List Stmt → List (Str × (Str ⊕ Str)) → Prop where
  | nil : Asn self [] []
  | lit {f x : Str} {j : Nat} {p1 p2 p3 p4 : Pos} {r : List Stmt} {l : List (Str × (Str ⊕ Str))} (h : Asn self r l) : Asn self (.Assign [.Attribute (.Name self p1) f p2] (.Constant (.str x) j p3) p4 :: r) ((f, .inl x) :: l)
  | par {f y : Str} {p1 p2 p3 p4 : Pos} {r : List Stmt} {l : List (Str × (Str ⊕ Str))} (h : Asn self r l) : Asn self (.Assign [.Attribute (.Name self p1) f p2] (.Name y p3) p4 :: r) ((f, .inr y) :: l)
/-- what the fields are behind the row -/
inductive Got (look : Str → Option Value) : List (Str × (Str ⊕ Str)) → List (Str × Value) → List (Str × Value) → Prop where
  | nil {acc} : Got look [] acc acc
  | lit {f x : Str} {l acc fs} (t : Tok) (h : Got look l ((f, .str x t) :: acc) fs) : Got look ((f, .inl x) :: l) acc fs
  | par {f y : Str} {v : Value} {l acc fs} (e : look y = some v) (h : Got look l ((f, v) :: acc) fs) : Got look ((f, .inr y) :: l) acc fs
theorem Got.len {look : Str → Option Value} {l : List (Str × (Str ⊕ Str))} {acc fs : List (Str × Value)} (h : Got look l acc fs) : fs.length = acc.length + l.length := by
  induction h with
  | nil => rfl
  | lit t _ ih => rw [ih]; simp; omega
  | par e _ ih => rw [ih]; simp; omega
theorem lookup_cons (f : Str) (v : Value) (acc : List (Str × Value)) : (fun y => ((f, v) :: acc).lookup y) = fun y => if y = f then some v else acc.lookup y := by
  funext y
  by_cases e : y = f
  · subst e; simp [List.lookup]
  · have : (y == f) = false := by simpa using e
    rw [if_neg e]; simp [List.lookup, this]
theorem within_lookup : ∀ acc : List (Str × Value), Within (fun y => acc.lookup y) (acc.map (·.1))
  | [], y, h => absurd rfl h
  | (f, v) :: r, y, h => by
    by_cases e : y = f
    · rw [e]; exact List.mem_cons_self
    · have : (y == f) = false := by simpa using e
      exact List.mem_cons_of_mem _ (within_lookup r y (by simpa [List.lookup, this] using h))
structure XCls (K : Frag) (C : Addr) (bmB : List Value) : Prop where
  over : excOver K C bmB = true
  sa : findIn K (.ref C) "__setattr__" = some (some (.builtin "object.__setattr__"))
  cd : ∃ cd, clsIn K C = some cd ∧ cd.hasDict = true
/-- how it stands so far: no field as yet, or a dict of them -/
def Sofar (h : Heap) (a C L : Addr) (lo : Nat) (acc : List (Str × Value)) : Prop := ∃ t0, (acc = [] ∧ h.get? a = some (excObj C t0 none .none)) ∨ ∃ dx, lo ≤ dx ∧ dx ≠ a ∧ dx ≠ L ∧ h.get? a = some (excObj C t0 (some dx) .none) ∧ h.Ns1 dx fun y => acc.lookup y
theorem Sofar.size {h : Heap} {a L : Addr} {lo : Nat} {acc : List (Str × Value)} (s : Sofar h a C L lo acc) : a < h.objs.size := by
  obtain ⟨t0, ⟨_, e⟩ | ⟨dx, _, _, _, e, _⟩⟩ := s
  · exact Heap.lt_size e
  · exact Heap.lt_size e
theorem ns_at {h h' : Heap} {L : Addr} {m : Str → Option Value} (n : h.Ns L m) (k : ∀ o, h.get? L = some o → h'.get? L = some o) : h'.Ns L m := by
  obtain ⟨o, es, ep, ho, r⟩ := n
  exact ⟨o, es, ep, k o ho, r⟩
theorem ns_lt {h : Heap} {L : Addr} {m : Str → Option Value} (n : h.Ns L m) : L < h.objs.size := by
  obtain ⟨o, es, ep, ho, r⟩ := n
  exact Heap.lt_size ho
theorem assigns {self : Str} {env : Env} {a : Addr} {m : Str → Option Value} {h₀ : Heap} {Q : Flow → Shared → Prop} (X₀ : K.In h₀) (na : h₀.get? a = none) (lo : h₀.objs.size ≤ a) (XC : XCls K C bmB) (SF : StoreFacts B bmB "object.__setattr__" "object")
    (hk : env.scope.kind = .function) (hs : env.kindOf self = some .local) (hself : m self = some (.ref a)) (hL : env.locals ≠ a) (hdb : (self == ("__debug__" : Str)) = false) :
    ∀ {sts : List Stmt} {l : List (Str × (Str ⊕ Str))}, Asn self sts l → ∀ {acc : List (Str × Value)} {h : Heap} {t : Nat}, (∀ b o, h₀.get? b = some o → h.get? b = some o) → h.Ns env.locals m → Sofar h a C env.locals h₀.objs.size acc → acc.length + l.length ≤ 900 →
      (∀ q ∈ l, takerIn K C q.1 = some none) → (∀ q ∈ l, ∀ y, q.2 = .inr y → env.kindOf y = some .local ∧ (∃ v, m y = some v) ∧ (y == ("__debug__" : Str)) = false) →
      (∀ h' tk fs, (∀ b o, h₀.get? b = some o → h'.get? b = some o) → Got m l acc fs → Sofar h' a C env.locals h₀.objs.size fs → Q .next ⟨h', g, d, tk, os⟩) → wpAny (model prog w) A (execs sts env) Q E ⟨h, g, d, t, os⟩ := by
  obtain ⟨cd, hcd, hdict⟩ := XC.cd
  intro sts l asn
  induction asn with
  | nil => exact fun k n so _ _ _ fin => wpAny_execs_nil (fin _ _ _ k .nil so)
  | @lit f x j p1 p2 p3 p4 r l _ ih =>
    intro acc h t k n so z htk hpar fin
    refine wpAny_execs_cons (plainObj_wpAny_Assign_Attribute (Calls.Constant_str (wpAny_Name (wpAny_loadName_local hk hs n hself ?_) hdb)) (by rfl))
    have X := X₀.keeps k
    have sz := so.size
    have nl := ns_lt n
    obtain ⟨t0, ⟨rfl, e⟩ | ⟨dx, d1, d2, d3, e, ens⟩⟩ := so
    · refine set_first SF X e XC.over (htk _ List.mem_cons_self) hcd hdict XC.sa fun h' tk' dx k' c1 c2 c3 c4 => ?_
      refine ih (acc := [(f, .str x t)]) (fun b o eb => k' b o (fun z => by rw [z, na] at eb; cases eb) (k b o eb)) (ns_at n fun o eo => k' _ o hL eo) ⟨t0, .inr ⟨dx, Nat.le_trans (Nat.le_of_lt (Nat.lt_of_le_of_lt lo sz)) c1, c2, Nat.ne_of_gt (Nat.lt_of_lt_of_le nl c1), c3, by rw [lookup_cons]; exact c4⟩⟩ (by simp at z ⊢; omega) (fun q m => htk q (List.mem_cons_of_mem _ m)) (fun q m => hpar q (List.mem_cons_of_mem _ m)) fun h'' tk'' fs a1 a2 a3 => fin h'' tk'' fs a1 (.lit t a2) a3
    · refine set_next SF X e ens (within_lookup acc) (by rw [List.length_map]; omega) XC.over (htk _ List.mem_cons_self) hcd hdict XC.sa fun h' tk' k' c4 => ?_
      have far : ∀ b o, h₀.get? b = some o → b ≠ dx := fun b o eb => Nat.ne_of_lt (Nat.lt_of_lt_of_le (Heap.lt_size eb) d1)
      refine ih (acc := (f, .str x t) :: acc) (fun b o eb => k' b o (far b o eb) (k b o eb)) (ns_at n fun o eo => k' _ o (Ne.symm d3) eo) ⟨t0, .inr ⟨dx, d1, d2, d3, k' a _ (Ne.symm d2) e, by rw [lookup_cons]; exact c4⟩⟩ (by simp at z ⊢; omega) (fun q m => htk q (List.mem_cons_of_mem _ m)) (fun q m => hpar q (List.mem_cons_of_mem _ m)) fun h'' tk'' fs a1 a2 a3 => fin h'' tk'' fs a1 (.lit t a2) a3
  | @par f y p1 p2 p3 p4 r l _ ih =>
    intro acc h t k n so z htk hpar fin
    obtain ⟨hy1, ⟨v, hy2⟩, hy3⟩ := hpar _ List.mem_cons_self y rfl
    refine wpAny_execs_cons (plainObj_wpAny_Assign_Attribute (wpAny_Name (wpAny_loadName_local hk hy1 n hy2 (wpAny_Name (wpAny_loadName_local hk hs n hself ?_) hdb)) hy3) (by rfl))
    have X := X₀.keeps k
    have sz := so.size
    have nl := ns_lt n
    obtain ⟨t0, ⟨rfl, e⟩ | ⟨dx, d1, d2, d3, e, ens⟩⟩ := so
    · refine set_first SF X e XC.over (htk _ List.mem_cons_self) hcd hdict XC.sa fun h' tk' dx k' c1 c2 c3 c4 => ?_
      refine ih (acc := [(f, v)]) (fun b o eb => k' b o (fun z => by rw [z, na] at eb; cases eb) (k b o eb)) (ns_at n fun o eo => k' _ o hL eo) ⟨t0, .inr ⟨dx, Nat.le_trans (Nat.le_of_lt (Nat.lt_of_le_of_lt lo sz)) c1, c2, Nat.ne_of_gt (Nat.lt_of_lt_of_le nl c1), c3, by rw [lookup_cons]; exact c4⟩⟩ (by simp at z ⊢; omega) (fun q m => htk q (List.mem_cons_of_mem _ m)) (fun q m => hpar q (List.mem_cons_of_mem _ m)) fun h'' tk'' fs a1 a2 a3 => fin h'' tk'' fs a1 (.par hy2 a2) a3
    · refine set_next SF X e ens (within_lookup acc) (by rw [List.length_map]; omega) XC.over (htk _ List.mem_cons_self) hcd hdict XC.sa fun h' tk' k' c4 => ?_
      have far : ∀ b o, h₀.get? b = some o → b ≠ dx := fun b o eb => Nat.ne_of_lt (Nat.lt_of_lt_of_le (Heap.lt_size eb) d1)
      refine ih (acc := (f, v) :: acc) (fun b o eb => k' b o (far b o eb) (k b o eb)) (ns_at n fun o eo => k' _ o (Ne.symm d3) eo) ⟨t0, .inr ⟨dx, d1, d2, d3, k' a _ (Ne.symm d2) e, by rw [lookup_cons]; exact c4⟩⟩ (by simp at z ⊢; omega) (fun q m => htk q (List.mem_cons_of_mem _ m)) (fun q m => hpar q (List.mem_cons_of_mem _ m)) fun h'' tk'' fs a1 a2 a3 => fin h'' tk'' fs a1 (.par hy2 a2) a3
/-- the program bears this file's name, and no name super of its own -/
def PrgOk (prog : Program) (fl : Str) : Prop := ((prog.main.file : Str) == fl) = true ∧ (prog.main.scope.names.lookup ("super" : Str)).isSome = false
/-- what the written part tells of a class and its __init__ (the def st, its literal x, its fields l) -/
structure XIn (K : Frag) (C f cda cc : Addr) (B newId initId : String) (bmB : List Value) (q slf : Str) (params : Arguments) (body : List Stmt) (scope : Scope) (ps : List Str) (l : List (Str × (Str ⊕ Str))) (fl : Str) : Prop where
  cls : XCls K C bmB
  ini : excInitIn K C bmB newId = true
  sup : ks_superIn K C C "__init__" = some (some (.builtin initId))
  sub : subIn K (.ref C) (.type B) = some true
  any : nsIn K cStatics "thirdparty.any" = some none
  own : mroIn K C (.ref C) = some true
  fn : ∃ oc od kV doc pm an ct osl, K.lookup f = some ⟨oc, od, .func (ksFn "__init__" q params body scope .none kV doc pm an (.ref cda) ct cc), osl⟩
  bd : ∀ (kV doc pm : Value) (an : Option Addr) (cd ct : Value) (cc : Addr) (us : List Value), us.length = ps.length → bindArgs (ksFn "__init__" q params body scope .none kV doc pm an cd ct cc) ⟨us, []⟩ = pure (ps.zip us)
  code : codeIn K (.ref cda) q = true
  file : ∃ ccl cdd vs ccs tf, K.lookup cda = some ⟨ccl, cdd, .fields vs, ccs⟩ ∧ vs[2]? = some (.str fl tf)
  cell : ∃ cl cld csl, K.lookup cc = some ⟨cl, cld, .cell (some (.ref C)), csl⟩
  body : ∃ x j p0 p1 p2 p3 p4 p5 rest, body = .Expr (.Call (.Attribute (.Call (.Name "super" p0) [] [] p1) "__init__" p2) [.Constant (.str x) j p3] [] p4) p5 :: rest ∧ Asn slf rest l ∧
    ∀ env : Env, ∃ pl : Sem Bool, eval (.Call (.Attribute (.Call (.Name "super" p0) [] [] p1) "__init__" p2) [.Constant (.str x) j p3] [] p4) env = (do
      let ov ← attributeBase (.Call (.Name "super" p0) [] [] p1) "__init__" env (eval (.Call (.Name "super" p0) [] [] p1) env)
      standAt p2.atName
      let (f, first) ← holding [ov] (getMethod ov "__init__" pl)
      callWith p4 f first (backTo p4 (starEach [.Constant (.str x) j p3] env)) [])
  par : ∃ ar, (params.posonlyargs ++ params.args).head? = some ar ∧ ar.arg = slf
  ps0 : ∃ r, ps = slf :: r
  nd : ps.Nodup
  kind : scope.kind = .function
  co : scope.isCoroutine = false
  gen : scope.isGenerator = false
  nocell : ∀ y ∈ scope.names, y.2 ≠ .cell
  loc : ∀ y ∈ ps, scope.names.lookup y = some .local ∧ (y == ("__debug__" : Str)) = false
  sup2 : scope.names.lookup ("super" : Str) = some .globalImplicit
  cls2 : scope.names.lookup ("__class__" : Str) = some .free
  fld : ∀ z ∈ l, takerIn K C z.1 = some none ∧ ∀ y, z.2 = .inr y → y ∈ ps
  few : l.length ≤ 900
  psFew : ps.length ≤ 900
theorem zip_lookup : ∀ {ps : List Str} {us : List Value} {y : Str}, us.length = ps.length → y ∈ ps → ∃ v, (ps.zip us).lookup y = some v
  | [], _, _, _, m => nomatch m
  | p :: ps, [], _, h, _ => by simp at h
  | p :: ps, u :: us, y, h, m => by
    by_cases e : y = p
    · exact ⟨u, by subst e; simp [List.lookup]⟩
    · have : (y == p) = false := by simpa using e
      obtain ⟨v, hv⟩ := zip_lookup (ps := ps) (us := us) (y := y) (by simpa using h) ((List.mem_cons.mp m).resolve_left e)
      exact ⟨v, by simp [List.lookup, this, hv]⟩
theorem rev_lookup : ∀ (l : List (Str × Value)) (y : Str), (l.map (·.1)).Nodup → l.reverse.lookup y = l.lookup y
  | [], _, _ => rfl
  | (k, v) :: r, y, nd => by
    simp only [List.map_cons, List.nodup_cons] at nd
    rw [List.reverse_cons, List.lookup_append, rev_lookup r y nd.2]
    by_cases e : y = k
    · subst e
      have no : r.lookup y = none := by
        cases q : r.lookup y with
        | none => rfl
        | some v => exact absurd (List.mem_map.mpr ⟨_, PySem.mem_of_lookup q, rfl⟩) nd.1
      simp [no, List.lookup]
    · have : (y == k) = false := by simpa using e
      simp [List.lookup, this]
theorem init_run {f cda cc a t0 : Addr} {q slf : Str} {params : Arguments} {body : List Stmt} {scope : Scope} {ps : List Str} {l : List (Str × (Str ⊕ Str))} {us : List Value} {h₀ base : Heap} {mg : Str → Option Value} {R : Result → Shared → Prop}
    {fl : Str} (Y : XIn K C f cda cc B newId initId bmB q slf params body scope ps l fl) (hP : PrgOk prog fl) (KF : KxsFacts B initId) (FB : ExcBaseFacts B newId initId bmB) (SF : StoreFacts B bmB "object.__setattr__" "object") (hd : A.depth < recursionLimit)
    (Mo : L2.Mod K mg base) (hb : ∀ b o, base.get? b = some o → h₀.get? b = some o) (hm : mg "super" = none) (k0 : ∀ b o, h₀.get? b = some o → h.get? b = some o) (na : h₀.get? a = none) (lo : h₀.objs.size ≤ a) (he : h.get? a = some (excObj C t0 none .none)) (hl : (Value.ref a :: us).length = ps.length) {args : Args}
    (hbind : ∀ (kV doc pm : Value) (an : Option Addr) (cd ct : Value) (cc : Addr), bindArgs (ksFn "__init__" q params body scope .none kV doc pm an cd ct cc) args = pure (ps.zip (.ref a :: us)))
    (fin : ∀ h' tk fs dx t1, (∀ b o, h₀.get? b = some o → h'.get? b = some o) → Got (fun y => (ps.zip (.ref a :: us)).lookup y) l [] fs → h₀.objs.size ≤ dx → dx ≠ a → h'.get? a = some (excObj C t1 (some dx) .none) → (h'.Ns1 dx fun y => fs.lookup y) → l ≠ [] → R (.ok (.ret .none)) ⟨h', g, d, tk, os⟩) (hne : l ≠ []) :
    codeAny (model prog w) A (.call (.ref f) args) R ⟨h, g, d, t, os⟩ := by
  obtain ⟨oc, od, kV, doc, pm, an, ct, osl, lk⟩ := Y.fn
  obtain ⟨ccl, cdd, vs, ccs, tf, fl1, fl2⟩ := Y.file
  obtain ⟨cl, cld, csl, lcell⟩ := Y.cell
  obtain ⟨x, j, p0, p1, p2, p3, p4, p5, rest, hbody, asn, hcall⟩ := Y.body
  obtain ⟨ar, har, harS⟩ := Y.par
  obtain ⟨pr, hps⟩ := Y.ps0
  obtain ⟨mb, hmb1, hmb2⟩ := Mo.blt
  obtain ⟨cd, hcd, _⟩ := Y.cls.cd
  have X₀ : K.In h₀ := Mo.kin.keeps hb
  have ndz : ((ps.zip (.ref a :: us)).map (·.1)).Nodup := by
    rw [List.map_fst_zip (by omega)]; exact Y.nd
  have lookR : ∀ y, (ps.zip (Value.ref a :: us)).reverse.lookup y = (ps.zip (Value.ref a :: us)).lookup y := fun y => rev_lookup _ y ndz
  refine ks_codeAny_call_defAt (fd := ksFn "__init__" q params body scope .none kV doc pm an (.ref cda) ct cc) (body := body) (binds := ps.zip (.ref a :: us)) hd ((X₀.keeps k0) _ _ lk) rfl (Mo.nolimit.keeps fun b o e => k0 b o (hb b o e)) (codeRec_of (X₀.keeps k0) Y.code) rfl (.of_eq (hbind _ _ _ _ _ _ _)) Y.nocell
    (fun y m => (Y.loc y.1 (List.of_mem_zip m).1).1) (fun h₁ hns k1 => ?_) Y.co Y.gen Y.kind
  subst hbody
  have k01 : ∀ b o, h₀.get? b = some o → h₁.get? b = some o := fun b o e => k1 b o (k0 b o e)
  have X1 : K.In h₁ := X₀.keeps k01
  have eC : clsIn K C = some cd := hcd
  obtain ⟨oD, hD1, hD2⟩ : ∃ oD, h₁.get? C = some oD ∧ oD.data = .cls cd := by
    unfold clsIn at eC
    split at eC
    · rename_i c d' cd' sl ho
      cases eC
      exact ⟨_, X1 _ _ ho, rfl⟩
    · cases eC
  have he1 : h₁.get? a = some (excObj C t0 none .none) := k1 a _ he
  have aL : h.objs.size ≠ a := Nat.ne_of_gt (Heap.lt_size he)
  have aC : a ≠ C := fun z => by
    have : K.lookup C ≠ none := fun z => by unfold clsIn at eC; rw [z] at eC; cases eC
    cases q : K.lookup C with
    | none => exact this q
    | some o => rw [z, X₀ _ _ q] at na; cases na
  have I1 : InstAt h₁ a (excObj C t0 none .none) C none := ⟨he1, rfl, rfl, trivial⟩
  have ha : (ps.zip (Value.ref a :: us)).reverse.lookup slf = some (.ref a) := by
    rw [lookR, hps]
    simp [List.lookup]
  have locS : scope.names.lookup slf = some .local := (Y.loc slf (by rw [hps]; exact List.mem_cons_self)).1
  have hs : (ks_superIn K C C "__init__") = some (some (.builtin initId)) := Y.sup
  unfold ks_superIn at hs
  rw [hcd] at hs
  have inter : interactive (callEnv (ksFn "__init__" q params (.Expr (.Call (.Attribute (.Call (.Name "super" p0) [] [] p1) "__init__" p2) [.Constant (.str x) j p3] [] p4) p5 :: rest) scope .none kV doc pm an (.ref cda) ct cc) h.objs.size f) = false := by
    have hk := Y.kind
    simp [interactive, callEnv, newEnv, hk]
  obtain ⟨pl, hev⟩ := hcall (ksEnv q scope h.objs.size f (.ref cda) cc)
  refine ks_wpAt_execs_cons (ks_wpAt_Expr_any (ks_wpAt_MethodCall (pl := pl) (ks_wpAt_super_base (env := ksEnv q scope h.objs.size f (.ref cda) cc) Y.sup2 Y.cls2 (by decide) rfl (X1 _ _ lk) rfl har rfl (X1 _ _ fl1) rfl fl2 hP.1 hP.2 ?_) hev) (hi := inter))
  refine ks_loadName_global Y.kind Y.sup2 (loadGlobal_builtin (env := ksEnv q scope h.objs.size f (.ref cda) cc) (Mo.glob.keeps fun b o e => k01 b o (hb b o e)) hm (hmb1.keeps fun b o e => k01 b o (hb b o e)) ((hmb2 _ (by decide +kernel)).trans (by first | boot_by_name | rfl | kernel_rfl)) ⟨rfl, ?_⟩)
  refine wpAny_loadName_free Y.kind Y.cls2 rfl ⟨_, X1 _ _ lcell, rfl⟩ ?_
  refine wpAny_loadName_local Y.kind (by rw [harS]; exact locS) hns (by rw [harS]; exact ha) ?_
  refine ks_wpAny_isType_cls hD1 hD2 ⟨rfl, ?_⟩
  refine ks_wpAny_call_super hD1 hD2 he1 rfl (fun c e => by cases e) (looks_mroIn X1 Y.own) fun h2 so k2 => ?_
  have k02 : ∀ b o, h₀.get? b = some o → h2.get? b = some o := fun b o e => k2 b o (k01 b o e)
  have X2 : K.In h2 := X₀.keeps k02
  have he2 := k2 a _ he1
  have I2 : InstAt h2 a (excObj C t0 none .none) C none := ⟨he2, rfl, rfl, trivial⟩
  refine kxs_getMethod KF so (looks_opaque X2 Y.any) (l₀ := cd.mro) (fun A Q E s k q => wpAny_bind ((looks_clsIn X2 hcd) A _ E s k (wpAny_pure q))) rfl X2 hs (I2.type.andThen (looks_subIn X2 Y.sub)) aC (by decide) ?_
  have k3 : ∀ b o, h2.get? b = some o → (h2.push (kxs_mw initId a)).get? b = some o := fun b o e => Heap.get?_push_of_some _ e
  refine kxs_callWith (i := initId) (x := a) (by rfl) (evalArgs_plain ?_)
  show wpAny _ _ (spliced ((false, eval (.Constant (.str x) j p3) _) :: backTo p4 (starEach [] _))) _ _ _
  refine Calls.spliced_cons (Calls.Constant_str (Calls.spliced_nil ⟨Heap.get?_push_size _ rfl, ?_⟩))
  refine bound_call (X₀.keeps fun b o e => k3 b o (k02 b o e)) Y.ini FB (k3 a _ he2) (Heap.get?_push_size _ rfl) (show 1 ≤ sizeLine by decide) fun h4 t1 k4 at4 => ?_
  have k04 : ∀ b o, h₀.get? b = some o → h4.get? b = some o := fun b o e => k4 b o (fun z => by rw [z, na] at e; cases e) (k3 b o (k02 b o e))
  have hnl : h4.Ns h.objs.size (fun y => (ps.zip (Value.ref a :: us)).lookup y) := by
    have e : (fun y => (ps.zip (Value.ref a :: us)).reverse.lookup y) = fun y => (ps.zip (Value.ref a :: us)).lookup y := funext lookR
    rw [e] at hns
    exact ns_at hns fun o eo => k4 _ o aL (k3 _ o (k2 _ o eo))
  refine wpAt_of_wpAny (assigns (env := ksEnv q scope h.objs.size f (.ref cda) cc) X₀ na lo Y.cls SF Y.kind locS (by rw [← lookR]; exact ha) aL (Y.loc slf (by rw [hps]; exact List.mem_cons_self)).2 asn k04 hnl ⟨t1, .inl ⟨rfl, at4⟩⟩ (by simpa using Y.few) (fun z m => (Y.fld z m).1) (fun z m y ey => ?_) fun h' tk fs c1 c2 c3 => ?_)
  · have my := (Y.fld z m).2 y ey
    obtain ⟨v, hv⟩ := zip_lookup (us := Value.ref a :: us) hl my
    exact ⟨(Y.loc y my).1, ⟨v, hv⟩, (Y.loc y my).2⟩
  · obtain ⟨t2, ⟨e1, _⟩ | ⟨dx, d1, d2, _, d4, d5⟩⟩ := c3
    · have := c2.len
      rw [e1] at this
      cases l with
      | nil => exact absurd rfl hne
      | cons z r => simp at this
    · exact fin h' tk fs dx t2 c1 c2 d1 d2 d4 d5 hne
/-- C(..): the new exception, its dict -/
theorem make_run {f cda cc : Addr} {q slf : Str} {params : Arguments} {body : List Stmt} {scope : Scope} {ps : List Str} {l : List (Str × (Str ⊕ Str))} {us : List Value} {base : Heap} {mg : Str → Option Value} {R : Result → Shared → Prop} {fl : Str}
    (Y : XIn K C f cda cc B newId initId bmB q slf params body scope ps l fl) (hP : PrgOk prog fl) (KF : KxsFacts B initId) (FB : ExcBaseFacts B newId initId bmB) (SF : StoreFacts B bmB "object.__setattr__" "object") (iC : findIn K (.ref C) "__init__" = some (some (.ref f))) (tI : typeIn K (.ref f) = some (.type "function"))
    (hd : (A.under (.builtin "type.__call__" ⟨.ref C :: us, []⟩)).depth < recursionLimit) (Mo : L2.Mod K mg base) (hb : ∀ b o, base.get? b = some o → h.get? b = some o) (hm : mg "super" = none) (hl : us.length + 1 = ps.length) (hu : us.length ≤ sizeLine)
    (fin : ∀ h' tk fs dx t1 a, (∀ b o, h.get? b = some o → h'.get? b = some o) → Got (fun y => (ps.zip (.ref a :: us)).lookup y) l [] fs → h.objs.size ≤ dx → dx ≠ a → h.objs.size ≤ a → h'.get? a = some (excObj C t1 (some dx) .none) → (h'.Ns1 dx fun y => fs.lookup y) → R (.ok (.ret (.ref a))) ⟨h', g, d, tk, os⟩) (hne : l ≠ []) :
    codeAny (model prog w) A (.call (.ref C) ⟨us, []⟩) R ⟨h, g, d, t, os⟩ := by
  have X : K.In h := Mo.kin.keeps hb
  obtain ⟨nm, N', qn, bs, bm, hdct, sn, sub, ab, col, dd, k0, k1, k2, k3, k5, hC, hT⟩ := excInit_of X Y.ini
  have keep : ∀ b o, h.get? b = some o → ((h.push (kdv_tup us)).push (PySem.HandSPX.excO C h.objs.size)).get? b = some o := fun b o e => Heap.get?_push_of_some _ (Heap.get?_push_of_some _ e)
  have hget : ((h.push (kdv_tup us)).push (PySem.HandSPX.excO C h.objs.size)).get? (h.objs.size + 1) = some (excObj C h.objs.size none .none) := by
    show _ = some (PySem.HandSPX.excO C h.objs.size)
    heap_get
  have na : h.get? (h.objs.size + 1) = none := by
    cases q : h.get? (h.objs.size + 1) with
    | none => rfl
    | some o => exact absurd (Heap.lt_size q) (Nat.not_lt_of_le (Nat.le_succ _))
  refine PySem.HandSPX.call_own FB hT hC (looks_findIn X iC) (fun s => bind_fn X s tI) hu ?_
  exact init_run (R := InitBack (h.objs.size + 1) R) Y hP KF FB SF hd Mo hb hm keep na (Nat.le_succ _) hget (by simpa using hl) (fun kV doc pm an cd ct cc => Y.bd kV doc pm an cd ct cc _ (by simpa using hl)) (fun h' tk fs dx t1 c1 c2 c3 c4 c5 c6 _ => ⟨rfl, fin h' tk fs dx t1 _ c1 c2 c3 c4 (Nat.le_succ _) c5 c6⟩) hne
end
end REX
end

section
set_option maxRecDepth 100000
set_option maxHeartbeats 4000000
/-! own exceptions as values -/
namespace RL
open PySem PySem.Spec L2 OrdX
open PyProof.Rows hiding St
/-- what the fields are behind a row of stores -/
def fldR {α : Type} (lit : Str → α) (look : Str → Option α) : List (Str × (Str ⊕ Str)) → List (Str × α) → Option (List (Str × α))
  | [], acc => some acc
  | (f, .inl x) :: l, acc => fldR lit look l ((f, lit x) :: acc)
  | (f, .inr y) :: l, acc => match look y with
    | some v => fldR lit look l ((f, v) :: acc)
    | none => none
inductive RelF : List (Str × V) → List (Str × Value) → Prop where
  | nil : RelF [] []
  | cons {f v u a b} (h : RelV v u) (r : RelF a b) : RelF ((f, v) :: a) ((f, u) :: b)
theorem RelF.look {a : List (Str × V)} {b : List (Str × Value)} (r : RelF a b) (f : Str) : RelO (a.lookup f) (b.lookup f) := by
  induction r with
  | nil => exact True.intro
  | @cons g v u a b h r ih =>
    by_cases e : f = g
    · subst e; simp [List.lookup]; exact h
    · have : (f == g) = false := by simpa using e
      simp [List.lookup, this]; exact ih
theorem got_rel {lv : Str → Option V} {lu : Str → Option Value} : ∀ {l : List (Str × (Str ⊕ Str))} {acc fs : List (Str × Value)} {accv fv : List (Str × V)}, (∀ z ∈ l, ∀ y v, z.2 = .inr y → lv y = some v → ∃ u, lu y = some u ∧ RelV v u) → REX.Got lu l acc fs → RelF accv acc → fldR V.str lv l accv = some fv → RelF fv fs
  | [], _, _, _, _, _, .nil, r, e => by cases (Option.some.inj e : _ = _); exact r
  | (f, .inl x) :: l, _, _, _, _, hl, .lit t h, r, e => got_rel (fun z m => hl z (List.mem_cons_of_mem _ m)) h (.cons (v := .str x) ⟨t, rfl⟩ r) e
  | (f, .inr y) :: l, _, _, accv, fv, hl, .par e1 h, r, e => by
    simp only [fldR] at e
    cases q : lv y with
    | none => rw [q] at e; cases e
    | some v =>
      rw [q] at e
      obtain ⟨u, h1, h2⟩ := hl _ List.mem_cons_self y v rfl q
      rw [e1] at h1; cases h1
      exact got_rel (fun z m => hl z (List.mem_cons_of_mem _ m)) h (.cons h2 r) e
section
variable {K : PySem.W.Frag} {mg : Str → Option Value} {ρ : RT} {H : Hp}
/-- the fields as trees, as values -/
theorem fld_rel {lw : Str → Option W} {lv : Str → Option V} : ∀ {l : List (Str × (Str ⊕ Str))} {accw fw : List (Str × W)} {accv : List (Str × V)}, (∀ z ∈ l, ∀ y w, z.2 = .inr y → lw y = some w → ∃ v, lv y = some v ∧ RW K mg ρ H w v) → accw.map (·.1) = accv.map (·.1) → RWs K mg ρ H (accw.map (·.2)) (accv.map (·.2)) →
    fldR W.str lw l accw = some fw → ∃ fv, fldR V.str lv l accv = some fv ∧ fw.map (·.1) = fv.map (·.1) ∧ RWs K mg ρ H (fw.map (·.2)) (fv.map (·.2))
  | [], _, _, _, _, hn, hr, e => by cases (Option.some.inj e : _ = _); exact ⟨_, rfl, hn, hr⟩
  | (f, .inl x) :: l, accw, fw, accv, hl, hn, hr, e => fld_rel (l := l) (accw := (f, .str x) :: accw) (accv := (f, .str x) :: accv) (fun z m => hl z (List.mem_cons_of_mem _ m)) (by rw [List.map_cons, List.map_cons, hn]) (.cons (.str x) hr) e
  | (f, .inr y) :: l, accw, fw, accv, hl, hn, hr, e => by
    simp only [fldR] at e
    cases q : lw y with
    | none => rw [q] at e; cases e
    | some w =>
      rw [q] at e
      obtain ⟨v, h1, h2⟩ := hl _ List.mem_cons_self y w rfl q
      obtain ⟨fv, g1, g2⟩ := fld_rel (l := l) (accw := (f, w) :: accw) (accv := (f, v) :: accv) (fun z m => hl z (List.mem_cons_of_mem _ m)) (by rw [List.map_cons, List.map_cons, hn]) (.cons h2 hr) e
      refine ⟨fv, ?_, g2⟩
      simp only [fldR, h1]; exact g1
theorem zip_rws : ∀ {ps : List Str} {ws : List W} {vs : List V} {y : Str} {w : W}, RWs K mg ρ H ws vs → (ps.zip ws).lookup y = some w → ∃ v, (ps.zip vs).lookup y = some v ∧ RW K mg ρ H w v
  | [], _, _, _, _, _, h => by simp [List.lookup] at h
  | p :: ps, _, _, _, _, .nil, h => by simp [List.lookup] at h
  | p :: ps, _, _, y, w, .cons r t, h => by
    by_cases e : y = p
    · subst e
      simp [List.lookup] at h ⊢
      subst h; exact r
    · have : (y == p) = false := by simpa using e
      simp [List.lookup, this] at h ⊢
      exact zip_rws t h
theorem zip_vals : ∀ {ps : List Str} {vs : List V} {us : List Value} {y : Str} {v : V}, Vals vs us → (ps.zip vs).lookup y = some v → ∃ u, (ps.zip us).lookup y = some u ∧ RelV v u
  | [], _, _, _, _, _, h => by simp [List.lookup] at h
  | p :: ps, _, _, _, _, .nil, h => by simp [List.lookup] at h
  | p :: ps, _, _, y, v, .cons r t, h => by
    by_cases e : y = p
    · subst e
      simp [List.lookup] at h ⊢
      subst h; exact r
    · have : (y == p) = false := by simpa using e
      simp [List.lookup, this] at h ⊢
      exact zip_vals t h
end
/-- C(..) of an own exception's class -/
def gMakeX (c : Str) (ps : List Str) (l : List (Str × (Str ⊕ Str))) (ws : List W) (S : Store) : Res W := if ws.length = ps.length then (match fldR W.str (fun y => (ps.zip ws).lookup y) l [] with
  | some fw => .ok (.exn c (fw.map (·.1)) (fw.map (·.2))) S
  | none => .bad) else .bad
/-- the class c, its __init__ with the parameters ps keeps l; the program's file is fl -/
def XTx (K : PySem.W.Frag) (mg : Str → Option Value) (c : Str) (st : Stmt) (slf : Str) (ps : List Str) (l : List (Str × (Str ⊕ Str))) (fl : Str) : Prop :=
  ∃ (C f cda cc : Addr) (B newId initId : String) (bmB : List Value) (q : Str), mg c = some (.ref C) ∧ PySem.W.findIn K (.ref C) "__init__" = some (some (.ref f)) ∧ PySem.W.typeIn K (.ref f) = some (.type "function") ∧ PySem.W.keepIn K (.ref C) = true ∧
    REX.XIn K C f cda cc B newId initId bmB q slf (defArgs st) (defBody st) (defScope st) (slf :: ps) l fl ∧ PySem.W.KxsFacts B initId ∧ ExcBaseFacts B newId initId bmB ∧ StoreFacts B bmB "object.__setattr__" "object" ∧ l ≠ [] ∧ ∀ z ∈ l, ∀ y, z.2 = .inr y → y ∈ ps
section
variable {X : Cx} {pins : List (Addr × Obj)} {σ : L2.St} {H : Hp} {s : Shared}
/-- two new objects -/
theorem inv_two {h' : Heap} {t' : Nat} {a dx : Addr} {o1 o2 : HO} (I : Inv X pins σ H s) (k : ∀ b u, s.heap.get? b = some u → h'.get? b = some u) (ha : s.heap.objs.size ≤ a) (hd : s.heap.objs.size ≤ dx) (ne : dx ≠ a)
    (n1 : ∀ H', ObjOk X.prog X.w H' h' dx o1) (n2 : ∀ H', ObjOk X.prog X.w H' h' a o2) : Inv X pins σ (upd (upd H dx o1) a o2) { s with heap := h', toks := t' } := by
  have fa : H a = none := I.hok.fresh ha
  have fd : H dx = none := I.hok.fresh hd
  have at_ : ∀ {b : Addr} {o : HO}, H b = some o → upd (upd H dx o1) a o2 b = some o := fun {b o} e => by rw [upd_ne (ne_of_none e fa), upd_ne (ne_of_none e fd)]; exact e
  have old : ∀ {b : Addr} {o : Obj}, s.heap.get? b = some o → b ≠ a ∧ b ≠ dx := fun {b o} e => ⟨Nat.ne_of_lt (Nat.lt_of_lt_of_le (Heap.lt_size e) ha), Nat.ne_of_lt (Nat.lt_of_lt_of_le (Heap.lt_size e) hd)⟩
  refine I.un (t' := t') { keep := fun b o q _ _ _ => k b o q, slot := fun b o q _ _ _ => ⟨o.slots, k b o q⟩, free := fun b o q n _ => by rw [upd_ne (old q).1, upd_ne (old q).2]; exact n, there := fun b o q _ => ⟨o, k b o q⟩, tups := fun b xs q => at_ q, frzs := fun b o u q => at_ q, tbls := fun b ps q => ⟨#[], by rw [at_ q]; simp⟩ } fun b o q => ?_
  by_cases hb : b = a
  · subst hb; rw [upd_same] at q; cases q; exact n2 _
  · rw [upd_ne hb] at q
    by_cases hb2 : b = dx
    · subst hb2; rw [upd_same] at q; cases q; exact n1 _
    · rw [upd_ne hb2] at q
      exact (I.hok b o q).stay (fun c v _ z => k c v z) (fun c z => at_ z) fun c xs z => at_ z
theorem RepS.two {K : PySem.W.Frag} {mg : Str → Option Value} {ρ : RT} {H : Hp} {S : Store} {a dx : Addr} {o1 o2 : HO} (R : RepS K mg ρ H S) (ha : H a = none) (hd : H dx = none) (ne : dx ≠ a) :
    Ext ρ H ρ (upd (upd H dx o1) a o2) ∧ RepS K mg ρ (upd (upd H dx o1) a o2) S ∧ Fx ρ (upd (upd H dx o1) a o2) a o2 ∧ Fx ρ (upd (upd H dx o1) a o2) dx o1 := by
  obtain ⟨e1, r1⟩ := R.tree hd o1
  have ha1 : upd H dx o1 a = none := by rw [upd_ne (Ne.symm ne)]; exact ha
  obtain ⟨e2, r2⟩ := r1.tree ha1 o2
  exact ⟨e1.trans e2, r2, fx_new r1 ha1 o2, (fx_new R hd o1).ext e2⟩
theorem zip_names {fv : List (Str × V)} {ns : List Str} (h : ns = fv.map (·.1)) : ns.zip (fv.map (·.2)) = fv := by
  subst h
  induction fv with
  | nil => rfl
  | cons p r ih => simp [ih]
theorem makeX_ep {E : XK} {c fl : Str} {ps : List Str} {l : List (Str × (Str ⊕ Str))} {C f cda cc : Addr} {B newId initId : String} {bmB : List Value} {q slf : Str} {params : Arguments} {body : List Stmt} {scope : Scope} {Q : VK} {ws : List W} {vs : List V} {us : List Value} {ρ : RT} {S : Store} {fw : List (Str × W)}
    (Y : REX.XIn X.K C f cda cc B newId initId bmB q slf params body scope (slf :: ps) l fl) (hpar : ∀ z ∈ l, ∀ y, z.2 = .inr y → y ∈ ps) (hC : X.mg c = some (.ref C)) (I : Inv X pins σ H s) (r : Vals vs us) (rep : RepS X.K X.mg ρ H S) (rw' : RWs X.K X.mg ρ H ws vs)
    (ew : fldR W.str (fun y => (ps.zip ws).lookup y) l [] = some fw) (o : Out X.K X.mg (RW X.K X.mg) E ρ H (.ok (.exn c (fw.map (·.1)) (fw.map (·.2))) S) Q) {h' : Heap} {tk' : Nat} {fs : List (Str × Value)} {dx : Nat} {t1 a : Addr}
    (keep : ∀ b o, s.heap.get? b = some o → h'.get? b = some o) (got : REX.Got (fun y => ((slf :: ps).zip (Value.ref a :: us)).lookup y) l [] fs) (c2 : s.heap.objs.size ≤ dx) (c3 : dx ≠ a) (c4 : s.heap.objs.size ≤ a) (c5 : h'.get? a = some (PySem.W.excObj C t1 (some dx) .none)) (c6 : h'.Ns1 dx fun y => fs.lookup y) :
    EP X pins σ Q (.ref a) { s with heap := h', toks := tk' } := by
  obtain ⟨fv, g1, g2, g3⟩ := fld_rel (lv := fun y => (ps.zip vs).lookup y) (accw := []) (accv := []) (fun z m y w _ h => zip_rws rw' h) rfl .nil ew
  have ndS : slf ∉ ps := (List.nodup_cons.mp Y.nd).1
  have rf : RelF fv fs := got_rel (lv := fun y => (ps.zip vs).lookup y) (accv := []) (fun z m y v ez h => by
    have hy := hpar z m y ez
    have : (y == slf) = false := by
      have : y ≠ slf := fun e => ndS (e ▸ hy)
      simpa using this
    obtain ⟨u, h1, h2⟩ := zip_vals r h
    exact ⟨u, by simp [List.lookup, this, h1], h2⟩) got .nil g1
  have fa : H a = none := I.hok.fresh c4
  have fd : H dx = none := I.hok.fresh c2
  have J := inv_two (t' := tk') (o1 := .xd fv) (o2 := exo a C (some dx)) I keep c4 c2 c3 (fun H' => ⟨_, c6, fun f => rf.look f⟩) (fun H' => exo_ok c5)
  obtain ⟨e1, rep1, x1, x2⟩ := rep.two (o1 := .xd fv) (o2 := exo a C (some dx)) fa fd c3
  refine ⟨.ref a, _, J, rfl, o ρ _ _ e1 rep1 (.exn (dx := dx) (vs := fv.map (·.2)) hC x1 ?_ ?_ (g3.ext e1))⟩
  · rw [zip_names g2]; exact x2
  · rw [g2, List.length_map, List.length_map]
theorem makeX_core {E : XK} {c fl slf : Str} {st : Stmt} {ps : List Str} {l : List (Str × (Str ⊕ Str))} {C : Addr} {k' : Nat} {Q : VK} {ws : List W} {vs : List V} {us : List Value} {ρ : RT} {S : Store} (T : XTx X.K X.mg c st slf ps l fl) (hP : REX.PrgOk X.prog fl) (hs : X.mg "super" = none) (hr : Room k' X.A) (hC : X.mg c = some (.ref C))
    (I : Inv X pins σ H s) (r : Vals vs us) (rep : RepS X.K X.mg ρ H S) (rw' : RWs X.K X.mg ρ H ws vs) (o : Out X.K X.mg (RW X.K X.mg) E ρ H (gMakeX c ps l ws S) Q) : wpAny (model X.prog X.w) X.A (call (.ref C) us) (EP X pins σ Q) X.xe s := by
  obtain ⟨C', f, cda, cc, B, newId, initId, bmB, q, t1, t2, t3, t4, Y, KF, FB, SF, hne, hpar⟩ := T
  rw [hC] at t1; cases t1
  unfold gMakeX at o
  split at o
  · rename_i hz
    cases ew : fldR W.str (fun y => (ps.zip ws).lookup y) l [] with
    | none => rw [ew] at o; exact o.elim
    | some fw =>
      rw [ew] at o
      have hlen : us.length = ps.length := by rw [← r.length, ← rw'.length, hz]
      obtain ⟨hp, gg, dr, tk, os⟩ := s
      have few : us.length ≤ sizeLine := by
        have := Y.psFew
        rw [List.length_cons] at this
        rw [hlen, sizeLine_eq]; omega
      exact wpAny_call (REX.make_run Y hP KF FB SF t2 t3 (by rw [make_depth]; have := hr.dp; omega) I.ok.mod I.bk hs (by simp [hlen]) few (fun h' tk' fs dx t1 a keep got c2 c3 c4 c5 c6 => makeX_ep Y hpar hC I r rep rw' ew o keep got c2 c3 c4 c5 c6) hne)
  · exact o.elim
end
section
variable {X : Cx} {E : XK} {pos apos p : Pos} {e o : Expr} {es : List Expr} {ma : SM W} {mr : SM (List W)} {c f fl slf : Str} {st : Stmt} {k' : Nat} {ps : List Str} {l : List (Str × (Str ⊕ Str))}
theorem pm_makeX (T : XTx X.K X.mg c st slf ps l fl) (hP : REX.PrgOk X.prog fl) (hs : X.mg "super" = none) (hr : Room k' X.A) (ha : PAM X E (e :: es) mr) (hg : Gl X c := by rfl) (hdb : (c == ("__debug__" : Str)) = false := by decide +kernel)
    (he : starEach (e :: es) X.env = (false, eval e X.env) :: starEach es X.env := by rfl) (hpl : (backTo pos (starEach es X.env)).any (·.1) = false := by rfl) : PM X E (.Call (.Name c p) (e :: es) [] pos) (mAp (gMakeX c ps l) mr) := by
  obtain ⟨C, _, _, _, _, _, _, _, _, h1, _, _, h4, _⟩ := id T
  refine ⟨fun pins s σ H Q I h => ?_⟩
  refine wpAny_Call_Name_kw (ld_glob I hg h1 ?_ hdb)
  refine PySem.W.callWith_K (h₀ := X.base) I.ok.mod.kin h4 (thn (ha.run pos pins s σ H (fun vs H1 => ∃ ρ S ws, RepS X.K X.mg ρ H1 S ∧ RWs X.K X.mg ρ H1 ws vs ∧ Out X.K X.mg (RW X.K X.mg) E ρ H1 (gMakeX c ps l ws S) Q) I (tX.bind (m := mr) (k := fun ws s S => gMakeX c ps l ws S) h fun ρ1 H1 ws vs s S1 rep env r o => ⟨ρ1, S1, ws, rep, r, o⟩)) fun us s1 ⟨vs, H1, I1, r, ρ, S, ws, rep, rw', o⟩ => ⟨I1.kIn, ?_⟩) he hpl
  exact makeX_core T hP hs hr h1 I1 r rep rw' o
theorem pm_makeX0 (T : XTx X.K X.mg c st slf ps l fl) (hP : REX.PrgOk X.prog fl) (hs : X.mg "super" = none) (hr : Room k' X.A) (hg : Gl X c := by rfl) (hdb : (c == ("__debug__" : Str)) = false := by decide +kernel) : PM X E (.Call (.Name c p) [] [] pos) (mAp (gMakeX c ps l) mNil) := by
  obtain ⟨C, _, _, _, _, _, _, _, _, h1, _, _, h4, _⟩ := id T
  refine ⟨fun pins s σ H Q I h => ?_⟩
  obtain ⟨ρ, s0, S, rep, env, o⟩ := h
  refine wpAny_Call_Name_kw (ld_glob I hg h1 ?_ hdb)
  refine PySem.W.callWith_K0 (first := []) I.kIn h4 ?_
  exact makeX_core T hP hs hr h1 I .nil rep .nil o
/-- e.f of an exception of one of the classes cs -/
def gXFld (cs : List Str) (f : Str) (w : W) (S : Store) : Res W := match w with
  | .exn c ns ws => if c ∈ cs then (match (ns.zip ws).lookup f with
    | some v => .ok v S
    | none => .bad) else .bad
  | _ => .bad
def XfT (K : PySem.W.Frag) (mg : Str → Option Value) (cs : List Str) (f : Str) : Prop := ∀ c ∈ cs, ∀ C, mg c = some (.ref C) → XfC K C ∧ PySem.W.findIn K (.ref C) f = some none
theorem pm_xfld {cs : List Str} (T : XfT X.K X.mg cs f) (ha : PM X E e ma) (hb : attributeBase e f X.env (eval e X.env) = eval e X.env := by rfl) : PM X E (.Attribute e f pos) (mUn (gXFld cs f) ma) := by
  refine ⟨fun pins s σ H Q I h => ?_⟩
  refine attr_of hb (thn (ha.run pins s σ H (fun x H1 => ∃ ρ S w, RepS X.K X.mg ρ H1 S ∧ RW X.K X.mg ρ H1 w x ∧ Out X.K X.mg (RW X.K X.mg) E ρ H1 (gXFld cs f w S) Q) I (tX.bind (m := ma) (k := fun w s S => gXFld cs f w S) h fun ρ1 H1 w v s S1 rep env r o => ⟨ρ1, S1, w, rep, r, o⟩)) fun u s1 ⟨x, H1, I1, rx, ρ, S, w, rep, r, o⟩ => ?_)
  unfold gXFld at o
  split at o
  · rename_i c ns ws
    split at o
    · rename_i hc
      cases r with
      | @exn a C dx _ _ _ vs hC hx hd hl hr =>
        obtain rfl : u = Value.ref a := rx
        obtain ⟨T1, hno⟩ := T c hc C hC
        cases e1 : (ns.zip ws).lookup f with
        | none => rw [e1] at o; exact o.elim
        | some wv =>
          rw [e1] at o
          dsimp only at o
          obtain ⟨v, e2, rv⟩ := zip_rws hr e1
          obtain ⟨t1, ho⟩ := exo_at I1.hok hx.1
          obtain ⟨mA, hns, rel⟩ := (show ObjOk X.prog X.w H1 s1.heap dx (.xd (ns.zip vs)) from I1.hok dx _ hd.1)
          obtain ⟨od, hod, hlk⟩ := lookIn_ns hns
          obtain ⟨u, hu, ru⟩ := RelO.some_of (v := v) (o := mA f) (by rw [← e2]; exact rel f)
          have J : PySem.W.InstAt s1.heap a _ C (some od) := ⟨ho, rfl, rfl, hod⟩
          exact HandSPX.exc_get I1.kIn J T1.ga T1.gg T1.exC (PySem.W.findObj_own T1.hdC hno rfl (by rw [hlk, hu])) (handed_of ru) ⟨v, H1, I1.tok _, ru, Out.here o rep rv⟩
    · exact o.elim
  · exact o.elim
/-- isinstance(e, c) of an exception: the answers by its class and c, c an own class or a built-in one -/
def gIsiX (tg : List (Str × Str × Bool)) (tt : List (Str × String × Bool)) (ws : List W) (S : Store) : Res W := match ws with
  | [.exn c _ _, .gl d] => match tg.find? (fun q => q.1 == c && q.2.1 == d) with
    | some q => .ok (.bl q.2.2) S
    | none => .bad
  | [.exn c _ _, .ty n] => match tt.find? (fun q => q.1 == c && q.2.1 == n) with
    | some q => .ok (.bl q.2.2) S
    | none => .bad
  | _ => .bad
/-- an exception's class, as isinstance wants it -/
structure XiC (K : PySem.W.Frag) (C : Addr) : Prop where
  xf : XfC K C
  cl : (PySem.W.clsIn K C).isSome = true
  ha : PySem.W.findIn K (.ref C) "__class__" = some (some (.builtin "object.__class__"))
  hn : PySem.W.specialIn K (.builtin "object.__class__") "__get__" = some (some (.builtin "getset_descriptor.__get__"))
  ht : PySem.W.takesIn K (.builtin "object.__class__") = some true
  hm : PySem.W.mroIn K C (.type "object") = some true
def XiG (K : PySem.W.Frag) (mg : Str → Option Value) (tg : List (Str × Str × Bool)) : Prop := ∀ q ∈ tg, ∀ C D, mg q.1 = some (.ref C) → mg q.2.1 = some (.ref D) → XiC K C ∧ PySem.W.kitOne K (.ref C) (.ref D) = some q.2.2
def XiY (K : PySem.W.Frag) (mg : Str → Option Value) (tt : List (Str × String × Bool)) : Prop := ∀ q ∈ tt, ∀ C, mg q.1 = some (.ref C) → XiC K C ∧ PySem.W.kitOne K (.ref C) (.type q.2.1) = some q.2.2
theorem cm_isiX {tg : List (Str × Str × Bool)} {tt : List (Str × String × Bool)} (T1 : XiG X.K X.mg tg) (T2 : XiY X.K X.mg tt) : CallM X E (.builtin "isinstance") (gIsiX tg tt) := by
  intro pins s σ H xs us Q I r ⟨ρ, S, ws, rep, rs, o⟩
  have core : ∀ {a C dx : Addr} {cv : Value} {b : Bool}, H a = some (exo a C (some dx)) → (∃ fs, H dx = some (.xd fs)) → XiC X.K C → PySem.W.kitOne X.K (.ref C) cv = some b → Q (.bl b) H → wpAny (model X.prog X.w) X.A (call (.builtin "isinstance") [.ref a, cv]) (EP X pins σ Q) X.xe s := fun {a C dx cv b} ha hd xc hk q => by
    obtain ⟨t1, ho⟩ := exo_at I.hok ha
    obtain ⟨fs, hd⟩ := hd
    obtain ⟨mA, hns, rel⟩ := (show ObjOk X.prog X.w H s.heap dx (.xd fs) from I.hok dx _ hd)
    obtain ⟨od, hod, _⟩ := lookIn_ns hns
    have J : PySem.W.InstAt s.heap a _ C (some od) := ⟨ho, rfl, rfl, hod⟩
    exact PySem.W.kia_one (PySem.W.kitx_exc xc.cl xc.xf.ga xc.xf.gg xc.xf.exC xc.ha xc.hn xc.ht xc.hm) I.kIn J hk (fun z => nomatch z) fun tk => ⟨.bl b, H, I.tok tk, rfl, q⟩
  unfold gIsiX at o
  split at o
  · rename_i c ns ws' d
    cases e : tg.find? (fun q => q.1 == c && q.2.1 == d) with
    | none => rw [e] at o; exact o.elim
    | some q =>
      rw [e] at o
      dsimp only at o
      have hm := List.mem_of_find?_eq_some e
      have hq := List.find?_some e
      simp only [Bool.and_eq_true, beq_iff_eq] at hq
      cases rs with
      | cons r1 r2 =>
        cases r2 with
        | cons r2 r3 =>
          cases r3
          cases r1 with
          | @exn a C dx _ _ _ vs hC hx hd hl hr =>
            cases r2 with
            | @gl _ D hD =>
              obtain ⟨xc, hk⟩ := T1 q hm C D (by rw [hq.1]; exact hC) (by rw [hq.2]; exact hD)
              cases r with
              | cons ra rb => cases rb with
                | cons rb rc =>
                  cases rc
                  cases ra; cases rb
                  exact core hx.1 ⟨_, hd.1⟩ xc hk (Out.here o rep (.bl _))
  · rename_i c ns ws' n
    cases e : tt.find? (fun q => q.1 == c && q.2.1 == n) with
    | none => rw [e] at o; exact o.elim
    | some q =>
      rw [e] at o
      dsimp only at o
      have hm := List.mem_of_find?_eq_some e
      have hq := List.find?_some e
      simp only [Bool.and_eq_true, beq_iff_eq] at hq
      cases rs with
      | cons r1 r2 =>
        cases r2 with
        | cons r2 r3 =>
          cases r3
          cases r1 with
          | @exn a C dx _ _ _ vs hC hx hd hl hr =>
            cases r2
            obtain ⟨xc, hk⟩ := T2 q hm C (by rw [hq.1]; exact hC)
            rw [hq.2] at hk
            cases r with
            | cons ra rb => cases rb with
              | cons rb rc =>
                cases rc
                cases ra; cases rb
                exact core hx.1 ⟨_, hd.1⟩ xc hk (Out.here o rep (.bl _))
  · exact o.elim
end
end RL
end

section
set_option maxRecDepth 100000
set_option maxHeartbeats 4000000
/-! own exceptions made by keyword -/
namespace REX
open PySem PySem.Spec PySem.Calls PyProof.Rows PySem.W
open Builtin
section
variable {M : Model} {A : Around} {E : Value → Shared → Prop} {h : Heap} {g : Array GenState} {d : Drawn} {t : Nat} {os : OsState}
variable {nm q : Str} {C N : Addr} {bs bm bmB : List Value} {hdct : Bool} {sn : List Str} {sub : List Value} {ab : Bool} {col : Option Bool} {dd : Option Addr} {k0 k1 k2 k3 k5 : Option Value} {B newId initId : String}
theorem kw_check (F : ExcBaseFacts B newId initId bmB) (hT : ∀ X : String, bm.contains (.type X) = bmB.contains (.type X)) {kw : List (Str × Value)} {Q : Unit → Shared → Prop}
    (hC : h.get? C = some (excClassObj nm q C N bs bm hdct sn sub ab col dd k0 k1 k2 k3 k5 newId)) (hq : Q () ⟨h, g, d, t, os⟩) : wpAny M A (checkBuiltinCall newId ⟨[.ref C], kw⟩) Q E ⟨h, g, d, t, os⟩ := by
  have hcont : (Value.ref C :: bm).contains (.type B) = true := by rw [List.contains_cons, hT, F.hasB, Bool.or_true]
  have hstar := F.noStar
  simp only [checkBuiltinCall, F.newKind, F.newSplit, F.newRow]
  repeat (first | refine wpAny_loadPart_at hC ?_ | (refine wpAny_isSubtype_exc hC ?_; rw [hcont]) | refine wpAny_staticBase_exc hC ?_ | refine wpAny_madeBy_exc hC ?_ | simp only [bne_self_eq_false, Bool.false_eq_true, if_false] | wp_step)
  exact hq
end
section
variable {prog : Program} {w : World} {A : Around} {E : Value → Shared → Prop} {R : Result → Shared → Prop} {h : Heap} {g : Array GenState} {d : Drawn} {t : Nat} {os : OsState}
variable {nm q : Str} {C N : Addr} {bs bm bmB : List Value} {hdct : Bool} {sn : List Str} {sub : List Value} {ab : Bool} {col : Option Bool} {dd : Option Addr} {k0 k1 k2 k3 k5 : Option Value} {B newId initId : String} {kw : List (Str × Value)}
abbrev laid (h : Heap) (C : Addr) : Heap := (h.push { cls := .type "tuple", data := .seq ([] : List Value).toArray }).push (PySem.HandSPX.excO C h.objs.size)
theorem kw_new (F : ExcBaseFacts B newId initId bmB) (hT : ∀ X : String, bm.contains (.type X) = bmB.contains (.type X)) (hC : h.get? C = some (excClassObj nm q C N bs bm hdct sn sub ab col dd k0 k1 k2 k3 k5 newId))
    (hq : R (.ok (.ret (.ref (h.objs.size + 1)))) ⟨laid h C, g, d, t, os⟩) : codeAny (model prog w) A (.builtin newId ⟨[.ref C], kw⟩) R ⟨h, g, d, t, os⟩ := by
  have hends := F.ends
  have c1 : (Value.ref C :: bm).contains (.type B) = true := by rw [List.contains_cons, hT, F.hasB, Bool.or_true]
  have c2 : (Value.ref C :: bm).contains (.type "AttributeError") = false := by rw [List.contains_cons, hT, F.noAttr]; rfl
  have c3 : (Value.ref C :: bm).contains (.type "NameError") = false := by rw [List.contains_cons, hT, F.noName]; rfl
  refine codeAny_builtinAt F.entry ?_
  unfold Builtin.«BaseException.__new__»
  refine PySem.wpAt_bind ?_
  show PySem.wpAt _ _ _ (stack >>= _) _ _ _
  refine PySem.wpAt_bind (PySem.wpAt_stack fun p below => PySem.wpAt_of_wpAny ?_)
  wp_walk
  refine PySem.wpAt_of_wpAny ?_
  rw [F.owner]
  repeat (first | with_reducible refine wpAny_madeHere_exc F.canon hC ?_ | with_reducible refine wpAny_loadPart_at hC ?_ | (with_reducible refine wpAny_isSubtype_exc hC ?_; first | rw [c1] | rw [c2] | rw [c3]) | wp_step)
  show R _ _
  rw [Heap.size_push]
  exact hq
theorem kw_type_call (F : ExcBaseFacts B newId initId bmB) (hT : ∀ X : String, bm.contains (.type X) = bmB.contains (.type X)) {fI : Addr} {Q : Fin → Shared → Prop} (hC : h.get? C = some (excClassObj nm q C N bs bm hdct sn sub ab col dd k0 k1 k2 k3 k5 newId))
    (hi : Looks (model prog w) h (typeLookup (.ref C) "__init__") (some (.ref fI))) (hb : ∀ self, Looks (model prog w) h (bindSpecial (.ref fI) self) (.ref fI, [self]))
    (hq : codeAny (model prog w) A (.call (.ref fI) ⟨[.ref (h.objs.size + 1)], kw⟩) (fun r s' => match r with | .ok (.ret v) => v = .none ∧ Q (.done (.ret (.ref (h.objs.size + 1)))) s' | .ok _ => False | .error e => E e s') ⟨laid h C, g, d, t, os⟩) :
    wpAny (model prog w) A (Builtin.«type.__call__» ⟨[.ref C], kw⟩) Q E ⟨h, g, d, t, os⟩ := by
  repeat (first | with_reducible refine wpAny_loadPart_at hC ?_ | with_reducible refine wpAny_madeBy_exc hC ?_ | wp_step)
  refine codeAny_call_builtin_code (Code.quiet_builtin _ F.quiet) (kw_check F hT hC (kw_new F hT hC ?_))
  show wpAny _ _ _ _ _ _
  have k : ∀ b o, h.get? b = some o → (laid h C).get? b = some o := fun b o e => Heap.get?_push_of_some _ (Heap.get?_push_of_some _ e)
  have hC₁ := k _ _ hC
  have hget : (laid h C).get? (h.objs.size + 1) = some (PySem.HandSPX.excO C h.objs.size) := by heap_get
  have c4 : (Value.ref C :: bm).contains (.ref C) = true := by simp
  have i1 := hi.keeps k
  have b1 := (hb (.ref (h.objs.size + 1))).keeps k
  unfold isInstance
  repeat (first | with_reducible refine wpAny_loadPart_at hget ?_ | (with_reducible refine wpAny_isSubtype_exc hC₁ ?_; rw [c4]) | wp_step)
  show wpAny _ _ (typeLookup (.ref C) _) _ _ _
  refine i1.at (wpAny_holding (wpAny_bind (b1.at (wpAny_bind (wpAny_call (codeAny_mono hq fun r s' z => ?_))))))
  rcases r with e | (v | _ | _ | _) <;> first | exact z | exact z.elim | skip
  obtain ⟨rfl, z⟩ := z
  first
    | exact wpAny_pure (wpAny_pure z)
    | (wp_walk; exact z)
theorem kw_call (F : ExcBaseFacts B newId initId bmB) (hT : ∀ X : String, bm.contains (.type X) = bmB.contains (.type X)) {fI : Addr} (hC : h.get? C = some (excClassObj nm q C N bs bm hdct sn sub ab col dd k0 k1 k2 k3 k5 newId))
    (hi : Looks (model prog w) h (typeLookup (.ref C) "__init__") (some (.ref fI))) (hb : ∀ self, Looks (model prog w) h (bindSpecial (.ref fI) self) (.ref fI, [self]))
    (hq : codeAny (model prog w) (A.under (.builtin "type.__call__" ⟨[.ref C], kw⟩)) (.call (.ref fI) ⟨[.ref (h.objs.size + 1)], kw⟩) (InitBack (h.objs.size + 1) R) ⟨laid h C, g, d, t, os⟩) :
    codeAny (model prog w) A (.call (.ref C) ⟨[], kw⟩) R ⟨h, g, d, t, os⟩ := by
  have f1 := tc_lookup
  have f2 := tc_bind (.ref C)
  have hTy : (⟨h, g, d, t, os⟩ : Shared).TypeIs (.ref C) "type" := ⟨_, hC, rfl⟩
  refine codeAny_of_tree ?_
  show wpAny _ _ (callAny (.ref C) _) _ _ _
  repeat (any_goals (first | assumption | with_reducible refine wpAny_loadPart_at hC ?_ | wp_step))
  refine ⟨rfl, ?_⟩
  refine codeAny_call_builtin_at (Code.quiet_builtin _ (by decide +kernel)) entry_typeCall (check_slot tc_kind tc_split (fun A Q E s k q => wpAny_isInstance (T := "type") (b := true) ⟨_, k _ _ hC, rfl⟩ tc_sub q) (tc_args _ _ _) ?_)
  refine kw_type_call F hT hC hi hb (codeAny_mono hq fun r s' z => ?_)
  rcases r with e | (v | _ | _ | _) <;> exact z
end
section
variable {prog : Program} {w : World} {A : Around} {R : Result → Shared → Prop} {h : Heap} {g : Array GenState} {d : Drawn} {t : Nat} {os : OsState} {K : Frag} {C : Addr} {B newId initId : String} {bmB : List Value}
/-- C(k = v, ..): us: the values in the parameters' order -/
theorem make_runK {f cda cc : Addr} {q slf : Str} {params : Arguments} {body : List Stmt} {scope : Scope} {ps : List Str} {l : List (Str × (Str ⊕ Str))} {us : List Value} {kw : List (Str × Value)} {base : Heap} {mg : Str → Option Value} {fl : Str}
    (Y : XIn K C f cda cc B newId initId bmB q slf params body scope ps l fl) (hP : PrgOk prog fl) (KF : KxsFacts B initId) (FB : ExcBaseFacts B newId initId bmB) (SF : StoreFacts B bmB "object.__setattr__" "object") (iC : findIn K (.ref C) "__init__" = some (some (.ref f))) (tI : typeIn K (.ref f) = some (.type "function"))
    (hd : (A.under (.builtin "type.__call__" ⟨[.ref C], kw⟩)).depth < recursionLimit) (Mo : L2.Mod K mg base) (hb : ∀ b o, base.get? b = some o → h.get? b = some o) (hm : mg "super" = none) (hl : us.length + 1 = ps.length)
    (hbind : ∀ (a : Value) (kV doc pm : Value) (an : Option Addr) (cd ct : Value) (cc : Addr), bindArgs (ksFn "__init__" q params body scope .none kV doc pm an cd ct cc) ⟨[a], kw⟩ = pure (ps.zip (a :: us)))
    (fin : ∀ h' tk fs dx t1 a, (∀ b o, h.get? b = some o → h'.get? b = some o) → Got (fun y => (ps.zip (.ref a :: us)).lookup y) l [] fs → h.objs.size ≤ dx → dx ≠ a → h.objs.size ≤ a → h'.get? a = some (excObj C t1 (some dx) .none) → (h'.Ns1 dx fun y => fs.lookup y) → R (.ok (.ret (.ref a))) ⟨h', g, d, tk, os⟩) (hne : l ≠ []) :
    codeAny (model prog w) A (.call (.ref C) ⟨[], kw⟩) R ⟨h, g, d, t, os⟩ := by
  have X : K.In h := Mo.kin.keeps hb
  obtain ⟨nm, N', qn, bs, bm, hdct, sn, sub, ab, col, dd, k0, k1, k2, k3, k5, hC, hT⟩ := excInit_of X Y.ini
  have keep : ∀ b o, h.get? b = some o → (laid h C).get? b = some o := fun b o e => Heap.get?_push_of_some _ (Heap.get?_push_of_some _ e)
  have hget : (laid h C).get? (h.objs.size + 1) = some (excObj C h.objs.size none .none) := by
    show _ = some (PySem.HandSPX.excO C h.objs.size)
    heap_get
  have na : h.get? (h.objs.size + 1) = none := by
    cases q : h.get? (h.objs.size + 1) with
    | none => rfl
    | some o => exact absurd (Heap.lt_size q) (Nat.not_lt_of_le (Nat.le_succ _))
  refine kw_call FB hT hC (looks_findIn X iC) (fun s => bind_fn X s tI) ?_
  exact init_run (R := InitBack (h.objs.size + 1) R) Y hP KF FB SF hd Mo hb hm keep na (Nat.le_succ _) hget (by simpa using hl) (fun kV doc pm an cd ct cc => hbind _ kV doc pm an cd ct cc) (fun h' tk fs dx t1 c1 c2 c3 c4 c5 c6 _ => ⟨rfl, fin h' tk fs dx t1 _ c1 c2 c3 c4 (Nat.le_succ _) c5 c6⟩) hne
end
end REX
namespace RL
open PySem PySem.Spec L2 OrdX
open PyProof.Rows hiding St
section
variable {X : Cx} {E : XK} {pos p : Pos} {kws : List Keyword} {mk : SM (List W)} {c fl : Str} {k' : Nat} {ps : List Str} {l : List (Str × (Str ⊕ Str))}
/-- how the keywords are bound -/
def KbX (ps : List Str) (st : Stmt) (slf : Str) (idx : List Nat) (ks : List Str) : Prop := ∀ (q : Str) (a : Value) (ws : List Value) (kV doc pm : Value) (an : Option Addr) (cd ct : Value) (cc : Addr), ws.length = ks.length → bindArgs (PySem.W.ksFn "__init__" q (defArgs st) (defBody st) (defScope st) .none kV doc pm an cd ct cc) ⟨[a], ks.zip ws⟩ = pure ((slf :: ps).zip (a :: pIdx idx ws))
theorem pm_makeXK {nb : Nat} [hl : Len mk nb] (idx : List Nat) (ks : List Str) {st : Stmt} {slf : Str} (T : XTx X.K X.mg c st slf ps l fl) (hP : REX.PrgOk X.prog fl) (hs : X.mg "super" = none) (hr : Room k' X.A) (hkw : PKM X E kws mk) (hb : KbX ps st slf idx ks)
    (hidx : idx.all (· < 0 + nb) = true := by decide) (hil : idx.length = ps.length := by rfl) (hkl : ks.length = nb := by rfl) (hks : (backToKw pos (keywordEach kws X.env)).filterMap (·.1) = ks := by rfl)
    (hall : (backToKw pos (keywordEach kws X.env)).all (·.1.isSome) = true := by rfl) (hg : Gl X c := by rfl) (hdb : (c == ("__debug__" : Str)) = false := by decide +kernel)
    (hpl : ((backTo pos (starEach [] X.env)).any (·.1) || (backToKw pos (keywordEach kws X.env)).any (·.1.isNone)) = false := by rfl) : PM X E (.Call (.Name c p) [] kws pos) (mCallK idx (gMakeX c ps l) mNil mk) := by
  obtain ⟨C, f, cda, cc, B, newId, initId, bmB, q, t1, t2, t3, t4, Y, KF, FB, SF, hne, hpar⟩ := T
  refine ⟨fun pins s σ H Q I h => ?_⟩
  refine wpAny_Call_Name_kw (ld_glob I hg t1 ?_ hdb)
  refine PySem.W.callWith_KW0 (h₀ := X.base) I.ok.mod.kin t4 hall ?_ hpl
  refine thn (hkw.run pos pins s σ H _ I (kw_sp hidx hil h)) fun us s1 ⟨zs, H1, I1, rz, l2, ρ, S, ws, rep, rw', hn, o⟩ => ⟨I1.kIn, ?_⟩
  rw [hks]
  rw [List.nil_append] at rw'
  show wpAny _ _ (call (.ref C) [] (ks.zip us)) _ _ _
  have r2 : Vals (pIdx idx zs) (pIdx idx us) := pIdx_vals rz
  have nus : us.length = ks.length := by rw [← rz.length, l2, hkl]
  have o : Out X.K X.mg (RW X.K X.mg) E ρ H1 (gMakeX c ps l ws S) Q := o
  unfold gMakeX at o
  by_cases hz : ws.length = ps.length
  · rw [if_pos hz] at o
    cases ew : fldR W.str (fun y => (ps.zip ws).lookup y) l [] with
    | none => rw [ew] at o; exact o.elim
    | some fw =>
      rw [ew] at o
      have hlen : (pIdx idx us).length = ps.length := by rw [← r2.length, ← rw'.length, hz]
      obtain ⟨hp, gg, dr, tk, os⟩ := s1
      exact wpAny_call (REX.make_runK (us := pIdx idx us) Y hP KF FB SF t2 t3 (by rw [make_depth]; have := hr.dp; omega) I1.ok.mod I1.bk hs (by simp [hlen]) (fun a kV doc pm an cd ct cc => hb q a us kV doc pm an cd ct cc nus) (fun h' tk' fs dx t1' a keep got c2 c3 c4 c5 c6 => makeX_ep Y hpar t1 I1 r2 rep rw' ew o keep got c2 c3 c4 c5 c6) hne)
  · rw [if_neg hz] at o; exact o.elim
end
end RL
end

section
set_option maxRecDepth 100000
set_option maxHeartbeats 4000000
namespace RL
open PySem PySem.Spec L2
open PyProof.Rows hiding St
section
variable {s : Env'} {S : Store} {w w1 w2 : W} {ws us : List W} {ma mb mo md mk mv mx mi : SM W} {mr : SM (List W)} {c f m : Str} {g : Fn} {ns : List Str}
def methK (c m : Str) (g : Fn) (mr : SM (List W)) (s : Env') (w : W) (S1 : Store) : Res W := match insAt S1 w with
  | some (c', ns, _) => if c' = c ∧ ns.contains m = false then (mr s S1).bind fun ws S2 => g (w :: ws) S2 else .bad
  | none => .bad
@[simp] theorem mMeth_eq : mMeth c m g mo mr s S = (mo s S).bind (methK c m g mr s) := rfl
@[simp] theorem methK_ins {c' : Str} : methK c m g mr s (.ins c' ns ws) S = if c' = c ∧ ns.contains m = false then (mr s S).bind fun us S2 => g (.ins c' ns ws :: us) S2 else .bad := rfl
@[simp] theorem gFld_ins {c' : Str} : gFld c f (.ins c' ns ws) S = if c' = c then (match (ns.zip ws).lookup f with
    | some v => .ok v S
    | none => .bad) else .bad := rfl
@[simp] theorem gMake_eq : gMake c ns ws S = if ws.length = ns.length then .ok (.ins c ns ws) S else .bad := rfl
@[simp] theorem gStar_eq {np : Nat} : gStar np g ws S = if np ≤ ws.length ∧ ws.length ≤ lim then g (ws.take np ++ [.tup (ws.drop np)]) S else .bad := rfl
@[simp] theorem isIns_ins {c' : Str} : isIns c (.ins c' ns ws) = (c' == c) := rfl
@[simp] theorem isIns_str {x : Str} : isIns c (.str x) = false := rfl
@[simp] theorem isIns_int {x : Int} : isIns c (.int x) = false := rfl
@[simp] theorem isStr_ins {c' : Str} : isStr (.ins c' ns ws) = false := rfl
@[simp] theorem isStr_str {x : Str} : isStr (.str x) = true := rfl
@[simp] theorem mFmt_eq : mFmt ma s S = (ma s S).bind fun w S1 => match w with
  | .str y => if y.length ≤ lim then .ok (.str y) S1 else .bad
  | _ => .bad := rfl
@[simp] theorem mJs_nil {acc : Str} : mJs [] acc s S = .ok (.str acc) S := rfl
@[simp] theorem mJs_cons {ms : List (SM W)} {acc : Str} : mJs (ma :: ms) acc s S = (ma s S).bind fun w S1 => match w with
    | .str y => if (acc ++ y).length ≤ lim then mJs ms (acc ++ y) s S1 else .bad
    | _ => .bad := rfl
@[simp] theorem mJoined_eq {ms : List (SM W)} : mJoined ms s S = mJs ms (tx []) s S := rfl
@[simp] theorem mStar_eq : mStar ma mr s S = (ma s S).bind fun w S1 => match seqA S1 w with
  | some ws => (mr s S1).bind fun us S2 => .ok (ws ++ us) S2
  | none => .bad := rfl
@[simp] theorem mNever_eq : mNever s S = .bad := rfl
@[simp] theorem seqA_lst : seqA S (.lst ws) = some ws := rfl
@[simp] theorem seqA_tup : seqA S (.tup ws) = some ws := rfl
def cdK (tab : List (Str × Str)) (k : W) (S1 : Store) : Res W := match k with
  | .str z => match tab.lookup z with
    | some v => .ok (.str v) S1
    | none => .bad
  | _ => .bad
@[simp] theorem mCDict_eq {tab : List (Str × Str)} : mCDict tab mi s S = (mi s S).bind (cdK tab) := rfl
@[simp] theorem cdK_str {tab : List (Str × Str)} {z : Str} : cdK tab (.str z) S = match tab.lookup z with
    | some v => .ok (.str v) S
    | none => .bad := rfl
@[simp] theorem mDNewR_eq : mDNewR s S = .ok (.ref S.length) (S ++ [dicO []]) := rfl
@[simp] theorem mDisp_eq {mp : SM (List (W × W))} : mDisp mp s S = (mp s S).bind gDisp := rfl
@[simp] theorem mPNil_eq : mPNil s S = .ok [] S := rfl
@[simp] theorem mPCons_eq {mp : SM (List (W × W))} : mPCons mk mv mp s S = (mk s S).bind fun k S1 => (mv s S1).bind fun v S2 => (mp s S2).bind fun r S3 => .ok ((k, v) :: r) S3 := rfl
@[simp] theorem mDPut_eq : mDPut md mk mv s S = (mv s S).bind fun v S1 => (md s S1).bind fun d S2 => (mk s S2).bind fun k S3 => (gDPut d k v S3).bind fun _ S4 => .ok (.nx, s) S4 := rfl
def metDK (g : W → List W → Store → Res W) (mr : SM (List W)) (s : Env') (o : W) (S1 : Store) : Res W := match dicAt S1 o with
  | some _ => (mr s S1).bind fun ws S2 => g o ws S2
  | none => .bad
@[simp] theorem gMetD_eq {g : W → List W → Store → Res W} : gMetD g mo mr s S = (mo s S).bind (metDK g mr s) := rfl
theorem dicO_at {kws : KW} {l : Nat} (h : S[l]? = some (dicO kws)) : dicL S l = some kws := by
  unfold dicL dicO at *
  rw [h]
  simp only [List.length_map, if_true, zip_unzip]
theorem dicAt_ref {l : Nat} : dicAt S (.ref l) = dicL S l := rfl
@[simp] theorem dicAt_T {kws : KW} : dicAt S (dicT kws) = some kws := by
  unfold dicT
  simp only [dicAt, List.length_map, if_true, zip_unzip]
@[simp] theorem keyW_str {x : Str} : keyW (.str x) = some (.inr x) := rfl
end
end RL
end

section
set_option maxRecDepth 100000
set_option maxHeartbeats 4000000
/-! makers of the text facts of own exceptions -/
namespace RL
open PySem PySem.Spec L2 OrdX
open PyProof.Rows hiding St
/-- what the def of an __init__ says by itself -/
structure StX (st : Stmt) (slf : Str) (ps : List Str) (l : List (Str × (Str ⊕ Str))) : Prop where
  body : ∃ x j p0 p1 p2 p3 p4 p5 rest, defBody st = .Expr (.Call (.Attribute (.Call (.Name "super" p0) [] [] p1) "__init__" p2) [.Constant (.str x) j p3] [] p4) p5 :: rest ∧ REX.Asn slf rest l ∧
    ∀ env : Env, ∃ pl : Sem Bool, eval (.Call (.Attribute (.Call (.Name "super" p0) [] [] p1) "__init__" p2) [.Constant (.str x) j p3] [] p4) env = (do
      let ov ← attributeBase (.Call (.Name "super" p0) [] [] p1) "__init__" env (eval (.Call (.Name "super" p0) [] [] p1) env)
      standAt p2.atName
      let (f, first) ← holding [ov] (getMethod ov "__init__" pl)
      callWith p4 f first (backTo p4 (starEach [.Constant (.str x) j p3] env)) [])
  par : ∃ ar, ((defArgs st).posonlyargs ++ (defArgs st).args).head? = some ar ∧ ar.arg = slf
  nd : (slf :: ps).Nodup
  kind : (defScope st).kind = .function
  co : (defScope st).isCoroutine = false
  gen : (defScope st).isGenerator = false
  nocell : ∀ y ∈ (defScope st).names, y.2 ≠ .cell
  loc : ∀ y ∈ slf :: ps, (defScope st).names.lookup y = some .local ∧ (y == ("__debug__" : Str)) = false
  sup2 : (defScope st).names.lookup ("super" : Str) = some .globalImplicit
  cls2 : (defScope st).names.lookup ("__class__" : Str) = some .free
  few : l.length ≤ 900
  psFew : (slf :: ps).length ≤ 900
  bd : ∀ (q : Str) (kV doc pm : Value) (an : Option Addr) (cd ct : Value) (cc : Addr) (us : List Value), us.length = (slf :: ps).length → bindArgs (PySem.W.ksFn "__init__" q (defArgs st) (defBody st) (defScope st) .none kV doc pm an cd ct cc) ⟨us, []⟩ = pure ((slf :: ps).zip us)
  ne : l ≠ []
  hpar : ∀ z ∈ l, ∀ y, z.2 = .inr y → y ∈ ps
theorem hpar_of {l : List (Str × (Str ⊕ Str))} {ps : List Str} (h : (l.all fun z => match z.2 with | .inr y => ps.contains y | .inl _ => true) = true) : ∀ z ∈ l, ∀ y, z.2 = .inr y → y ∈ ps := by
  intro z m y e
  have := List.all_eq_true.mp h z m
  rw [e] at this
  exact List.contains_iff_mem.mp this
/-- a built-in base -/
structure BasX (B newId initId : String) (bmB : List Value) : Prop where
  kf : PySem.W.KxsFacts B initId
  fb : ExcBaseFacts B newId initId bmB
  sf : StoreFacts B bmB "object.__setattr__" "object"
section
variable {K : PySem.W.Frag} {mg : Str → Option Value} {h : Heap} {c q fl slf : Str} {C f cda cc : Addr} {B newId initId : String} {bmB : List Value} {st : Stmt} {ps : List Str} {l : List (Str × (Str ⊕ Str))} {oc ccl cl kV dc pm ct : Value} {od an cdd cld : Option Addr} {osl ccs csl : Array (Option Value)} {vs : Array Value} {tf : Tok}
theorem xtx_mk (bx : BasX B newId initId bmB) (sx : StX st slf ps l) (X : K.In h) (G : h.Ns mainGlobals mg) (a : PySem.W.nsIn K mainGlobals c = some (some (.ref C))) (iC : PySem.W.findIn K (.ref C) "__init__" = some (some (.ref f))) (tI : PySem.W.typeIn K (.ref f) = some (.type "function")) (kC : PySem.W.keepIn K (.ref C) = true)
    (over : PySem.W.excOver K C bmB = true) (ini : PySem.W.excInitIn K C bmB newId = true) (sup : PySem.W.ks_superIn K C C "__init__" = some (some (.builtin initId))) (dict : PySem.W.hasDictIn K C = true)
    (sa : PySem.W.findIn K (.ref C) "__setattr__" = some (some (.builtin "object.__setattr__"))) (sub : PySem.W.subIn K (.ref C) (.type B) = some true) (any : PySem.W.nsIn K cStatics "thirdparty.any" = some none) (own : PySem.W.mroIn K C (.ref C) = some true)
    (lk : K.lookup f = some ⟨oc, od, .func (PySem.W.ksFn "__init__" q (defArgs st) (defBody st) (defScope st) .none kV dc pm an (.ref cda) ct cc), osl⟩) (cod : PySem.W.codeIn K (.ref cda) q = true) (fl1 : K.lookup cda = some ⟨ccl, cdd, .fields vs, ccs⟩) (fl2 : vs[2]? = some (.str fl tf))
    (cell : K.lookup cc = some ⟨cl, cld, .cell (some (.ref C)), csl⟩) (tk : ∀ z ∈ l, PySem.W.takerIn K C z.1 = some none) : XTx K mg c st slf ps l fl := by
  obtain ⟨cd, hcd, hdd⟩ := PySem.W.any_some dict
  refine ⟨C, f, cda, cc, B, newId, initId, bmB, q, PySem.W.mg_of X G a, iC, tI, kC, ⟨⟨over, sa, cd, hcd, hdd⟩, ini, sup, sub, any, own, ⟨oc, od, kV, dc, pm, an, ct, osl, lk⟩, sx.bd q, cod, ⟨ccl, cdd, vs, ccs, tf, fl1, fl2⟩, ⟨cl, cld, csl, cell⟩, sx.body, sx.par, ⟨ps, rfl⟩, sx.nd, sx.kind, sx.co, sx.gen, sx.nocell, sx.loc, sx.sup2, sx.cls2, fun z m => ⟨tk z m, fun y e => List.mem_cons_of_mem _ (sx.hpar z m y e)⟩, sx.few, sx.psFew⟩, bx.kf, bx.fb, bx.sf, sx.ne, sx.hpar⟩
end
theorem bas_VE : BasX "ValueError" "ValueError.__new__" "ValueError.__init__" [.type "ValueError", .type "Exception", .type "BaseException", .type "object"] := ⟨PySem.W.kxs_ValueError, F.excBase_ValueError, F.store_ValueError⟩
theorem bas_LE : BasX "LookupError" "LookupError.__new__" "LookupError.__init__" [.type "LookupError", .type "Exception", .type "BaseException", .type "object"] := ⟨PySem.W.kxs_LookupError, F.excBase_LookupError, F.store_LookupError⟩
theorem bas_IE : BasX "IndexError" "IndexError.__new__" "IndexError.__init__" [.type "IndexError", .type "LookupError", .type "Exception", .type "BaseException", .type "object"] := ⟨PySem.W.kxs_IndexError, F.excBase_IndexError, F.store_IndexError⟩
/-- an exception's class by its name -/
def XcT (K : PySem.W.Frag) (mg : Str → Option Value) (c : Str) : Prop := ∃ C, mg c = some (.ref C) ∧ XiC K C
section
variable {K : PySem.W.Frag} {mg : Str → Option Value} {h : Heap} {c d f : Str} {C D : Addr} {cs : List Str} {b : Bool} {n : String} {tg : List (Str × Str × Bool)} {tt : List (Str × String × Bool)}
theorem xct_mk (X : K.In h) (G : h.Ns mainGlobals mg) (a : PySem.W.nsIn K mainGlobals c = some (some (.ref C))) (ga : PySem.W.findIn K (.ref C) "__getattribute__" = some (some (.builtin "BaseException.__getattribute__"))) (gg : PySem.W.findIn K (.ref C) "__getattr__" = some none)
    (ex : PySem.W.subIn K (.ref C) (.type "BaseException") = some true) (hd : PySem.W.hasDictIn K C = true) (cl : PySem.W.isClsIn K C = true) (k1 : PySem.W.findIn K (.ref C) "__class__" = some (some (.builtin "object.__class__")))
    (k2 : PySem.W.specialIn K (.builtin "object.__class__") "__get__" = some (some (.builtin "getset_descriptor.__get__"))) (k3 : PySem.W.takesIn K (.builtin "object.__class__") = some true) (k4 : PySem.W.mroIn K C (.type "object") = some true) : XcT K mg c :=
  ⟨C, PySem.W.mg_of X G a, ⟨ga, gg, ex, hd⟩, cl, k1, k2, k3, k4⟩
theorem XcT.at (T : XcT K mg c) (h : mg c = some (.ref C)) : XiC K C := by
  obtain ⟨D, h1, h2⟩ := T
  rw [h] at h1; cases h1
  exact h2
theorem xft_nil : XfT K mg [] f := fun c m => by cases m
theorem xft_cons (X : K.In h) (G : h.Ns mainGlobals mg) (T : XcT K mg c) (a : PySem.W.nsIn K mainGlobals c = some (some (.ref C))) (n : PySem.W.findIn K (.ref C) f = some none) (t : XfT K mg cs f) : XfT K mg (c :: cs) f := fun e m D hD => by
  rcases List.mem_cons.mp m with rfl | m
  · rw [PySem.W.mg_of X G a] at hD; cases hD
    exact ⟨(T.at (PySem.W.mg_of X G a)).xf, n⟩
  · exact t e m D hD
theorem kit_rr (h1 : PySem.W.isClsIn K D = true) (h2 : PySem.W.typeIn K (.ref D) = some (.type "type")) (h3 : PySem.W.subIn K (.ref C) (.ref D) = some b) (h4 : C = D → b = true) : PySem.W.kitOne K (.ref C) (.ref D) = some b := by
  by_cases e : C = D
  · rw [h4 e, e]; exact kit_self
  · have hne : (Value.ref C == Value.ref D) = false := Bool.eq_false_iff.mpr fun q => e (Value.ref.inj (beq_iff_eq.mp q))
    unfold PySem.W.kitOne PySem.W.kitCls
    rw [hne, if_neg Bool.false_ne_true]
    dsimp only
    rw [show (PySem.W.clsIn K D).isSome = true from h1, h2, Bool.true_and, if_pos (beq_self_eq_true _)]
    exact h3
theorem xig_nil : XiG K mg [] := fun q m => by cases m
theorem xig_cons (X : K.In h) (G : h.Ns mainGlobals mg) (T : XcT K mg c) (a : PySem.W.nsIn K mainGlobals c = some (some (.ref C))) (a2 : PySem.W.nsIn K mainGlobals d = some (some (.ref D))) (h1 : PySem.W.isClsIn K D = true) (h2 : PySem.W.typeIn K (.ref D) = some (.type "type")) (h3 : PySem.W.subIn K (.ref C) (.ref D) = some b) (h4 : C = D → b = true)
    (t : XiG K mg tg) : XiG K mg ((c, d, b) :: tg) := fun q m C' D' hC hD => by
  rcases List.mem_cons.mp m with rfl | m
  · rw [PySem.W.mg_of X G a] at hC; cases hC
    rw [PySem.W.mg_of X G a2] at hD; cases hD
    exact ⟨T.at (PySem.W.mg_of X G a), kit_rr h1 h2 h3 h4⟩
  · exact t q m C' D' hC hD
theorem xiy_nil : XiY K mg [] := fun q m => by cases m
theorem xiy_cons (X : K.In h) (G : h.Ns mainGlobals mg) (T : XcT K mg c) (a : PySem.W.nsIn K mainGlobals c = some (some (.ref C))) (hm : PySem.W.kitMeta n = true) (h3 : PySem.W.subIn K (.ref C) (.type n) = some b) (t : XiY K mg tt) : XiY K mg ((c, n, b) :: tt) := fun q m C' hC => by
  rcases List.mem_cons.mp m with rfl | m
  · rw [PySem.W.mg_of X G a] at hC; cases hC
    exact ⟨T.at (PySem.W.mg_of X G a), kit_out hm h3⟩
  · exact t q m C' hC
end
end RL
end

section
set_option maxRecDepth 100000
set_option maxHeartbeats 4000000
namespace Dk01
open PySem PySem.Spec L2 RL LC
open PyProof.Rows hiding St
def topS (i : Nat) : Stmt := PySem.Challenge.pw_unseenmap_k01_errors.main.body.getD i (.Pass ⟨0, 0, 0, 0⟩)
abbrev s_Apart : Stmt := (clsB (topS 17)).getD 0 (.Pass ⟨0, 0, 0, 0⟩)
def p_Apart : List Str := []
def l_Apart : List (Str × (Str ⊕ Str)) := [("code", .inl "Apart")]
abbrev s_Breaks : Stmt := (clsB (topS 18)).getD 0 (.Pass ⟨0, 0, 0, 0⟩)
def p_Breaks : List Str := ["fact_name", "sheet_name"]
def l_Breaks : List (Str × (Str ⊕ Str)) := [("code", .inl "Breaks"), ("fact_name", .inr "fact_name"), ("sheet_name", .inr "sheet_name")]
abbrev s_DuplicateName : Stmt := (clsB (topS 12)).getD 0 (.Pass ⟨0, 0, 0, 0⟩)
def p_DuplicateName : List Str := ["value"]
def l_DuplicateName : List (Str × (Str ⊕ Str)) := [("code", .inl "DuplicateName"), ("value", .inr "value")]
abbrev s_InUse : Stmt := (clsB (topS 15)).getD 0 (.Pass ⟨0, 0, 0, 0⟩)
def p_InUse : List Str := ["user"]
def l_InUse : List (Str × (Str ⊕ Str)) := [("code", .inl "InUse"), ("user", .inr "user")]
abbrev s_InvalidCommand : Stmt := (clsB (topS 10)).getD 0 (.Pass ⟨0, 0, 0, 0⟩)
def p_InvalidCommand : List Str := ["word"]
def l_InvalidCommand : List (Str × (Str ⊕ Str)) := [("code", .inl "InvalidCommand"), ("word", .inr "word")]
abbrev s_InvalidKind : Stmt := (clsB (topS 8)).getD 0 (.Pass ⟨0, 0, 0, 0⟩)
def p_InvalidKind : List Str := ["value"]
def l_InvalidKind : List (Str × (Str ⊕ Str)) := [("code", .inl "InvalidKind"), ("value", .inr "value")]
abbrev s_InvalidLabel : Stmt := (clsB (topS 7)).getD 0 (.Pass ⟨0, 0, 0, 0⟩)
def p_InvalidLabel : List Str := ["value"]
def l_InvalidLabel : List (Str × (Str ⊕ Str)) := [("code", .inl "InvalidLabel"), ("value", .inr "value")]
abbrev s_InvalidName : Stmt := (clsB (topS 2)).getD 0 (.Pass ⟨0, 0, 0, 0⟩)
def p_InvalidName : List Str := ["value"]
def l_InvalidName : List (Str × (Str ⊕ Str)) := [("code", .inl "InvalidName"), ("value", .inr "value")]
abbrev s_InvalidNumber : Stmt := (clsB (topS 6)).getD 0 (.Pass ⟨0, 0, 0, 0⟩)
def p_InvalidNumber : List Str := ["value"]
def l_InvalidNumber : List (Str × (Str ⊕ Str)) := [("code", .inl "InvalidNumber"), ("value", .inr "value")]
abbrev s_InvalidPage : Stmt := (clsB (topS 11)).getD 0 (.Pass ⟨0, 0, 0, 0⟩)
def p_InvalidPage : List Str := ["line"]
def l_InvalidPage : List (Str × (Str ⊕ Str)) := [("code", .inl "InvalidPage"), ("line", .inr "line")]
abbrev s_InvalidStatement : Stmt := (clsB (topS 4)).getD 0 (.Pass ⟨0, 0, 0, 0⟩)
def p_InvalidStatement : List Str := ["value"]
def l_InvalidStatement : List (Str × (Str ⊕ Str)) := [("code", .inl "InvalidStatement"), ("value", .inr "value")]
abbrev s_InvalidStep : Stmt := (clsB (topS 5)).getD 0 (.Pass ⟨0, 0, 0, 0⟩)
def p_InvalidStep : List Str := ["path"]
def l_InvalidStep : List (Str × (Str ⊕ Str)) := [("code", .inl "InvalidStep"), ("path", .inr "path")]
abbrev s_InvalidTerm : Stmt := (clsB (topS 3)).getD 0 (.Pass ⟨0, 0, 0, 0⟩)
def p_InvalidTerm : List Str := ["value"]
def l_InvalidTerm : List (Str × (Str ⊕ Str)) := [("code", .inl "InvalidTerm"), ("value", .inr "value")]
abbrev s_InvalidText : Stmt := (clsB (topS 9)).getD 0 (.Pass ⟨0, 0, 0, 0⟩)
def p_InvalidText : List Str := ["line"]
def l_InvalidText : List (Str × (Str ⊕ Str)) := [("code", .inl "InvalidText"), ("line", .inr "line")]
abbrev s_NothingLeft : Stmt := (clsB (topS 22)).getD 0 (.Pass ⟨0, 0, 0, 0⟩)
def p_NothingLeft : List Str := []
def l_NothingLeft : List (Str × (Str ⊕ Str)) := [("code", .inl "NothingLeft")]
abbrev s_TooDeep : Stmt := (clsB (topS 13)).getD 0 (.Pass ⟨0, 0, 0, 0⟩)
def p_TooDeep : List Str := ["limit"]
def l_TooDeep : List (Str × (Str ⊕ Str)) := [("code", .inl "TooDeep"), ("limit", .inr "limit")]
abbrev s_TooMany : Stmt := (clsB (topS 14)).getD 0 (.Pass ⟨0, 0, 0, 0⟩)
def p_TooMany : List Str := ["limit"]
def l_TooMany : List (Str × (Str ⊕ Str)) := [("code", .inl "TooMany"), ("limit", .inr "limit")]
abbrev s_UnknownCell : Stmt := (clsB (topS 21)).getD 0 (.Pass ⟨0, 0, 0, 0⟩)
def p_UnknownCell : List Str := ["value"]
def l_UnknownCell : List (Str × (Str ⊕ Str)) := [("code", .inl "UnknownCell"), ("value", .inr "value")]
abbrev s_UnknownName : Stmt := (clsB (topS 20)).getD 0 (.Pass ⟨0, 0, 0, 0⟩)
def p_UnknownName : List Str := ["value"]
def l_UnknownName : List (Str × (Str ⊕ Str)) := [("code", .inl "UnknownName"), ("value", .inr "value")]
abbrev s_Unlike : Stmt := (clsB (topS 16)).getD 0 (.Pass ⟨0, 0, 0, 0⟩)
def p_Unlike : List Str := []
def l_Unlike : List (Str × (Str ⊕ Str)) := [("code", .inl "Unlike")]
def cs_code : List Str := ["InvalidName", "InvalidTerm", "InvalidStatement", "InvalidStep", "InvalidNumber", "InvalidLabel", "InvalidKind", "InvalidText", "InvalidCommand", "InvalidPage", "DuplicateName", "TooDeep", "TooMany", "InUse", "Unlike", "Apart", "Breaks", "UnknownName", "UnknownCell", "NothingLeft"]
def cs_fact_name : List Str := ["Breaks"]
def cs_limit : List Str := ["TooDeep", "TooMany"]
def cs_line : List Str := ["InvalidText", "InvalidPage"]
def cs_path : List Str := ["InvalidStep"]
def cs_sheet_name : List Str := ["Breaks"]
def cs_user : List Str := ["InUse"]
def cs_value : List Str := ["InvalidName", "InvalidTerm", "InvalidStatement", "InvalidNumber", "InvalidLabel", "InvalidKind", "DuplicateName", "UnknownName", "UnknownCell"]
def cs_word : List Str := ["InvalidCommand"]
def c_tg : List (Str × Str × Bool) := [(("InvalidName" : Str), ("InvalidName" : Str), true), (("InvalidTerm" : Str), ("InvalidName" : Str), false), (("InvalidStatement" : Str), ("InvalidName" : Str), false), (("InvalidStep" : Str), ("InvalidName" : Str), false), (("InvalidNumber" : Str), ("InvalidName" : Str), false), (("InvalidLabel" : Str), ("InvalidName" : Str), false), (("InvalidKind" : Str), ("InvalidName" : Str), false), (("InvalidText" : Str), ("InvalidName" : Str), false), (("InvalidCommand" : Str), ("InvalidName" : Str), false), (("InvalidPage" : Str), ("InvalidName" : Str), false), (("DuplicateName" : Str), ("InvalidName" : Str), false), (("TooDeep" : Str), ("InvalidName" : Str), false), (("TooMany" : Str), ("InvalidName" : Str), false), (("InUse" : Str), ("InvalidName" : Str), false), (("Unlike" : Str), ("InvalidName" : Str), false), (("Apart" : Str), ("InvalidName" : Str), false), (("Breaks" : Str), ("InvalidName" : Str), false), (("UnknownName" : Str), ("InvalidName" : Str), false), (("UnknownCell" : Str), ("InvalidName" : Str), false), (("NothingLeft" : Str), ("InvalidName" : Str), false), (("InvalidName" : Str), ("InvalidTerm" : Str), false), (("InvalidTerm" : Str), ("InvalidTerm" : Str), true), (("InvalidStatement" : Str), ("InvalidTerm" : Str), false), (("InvalidStep" : Str), ("InvalidTerm" : Str), false), (("InvalidNumber" : Str), ("InvalidTerm" : Str), false), (("InvalidLabel" : Str), ("InvalidTerm" : Str), false), (("InvalidKind" : Str), ("InvalidTerm" : Str), false), (("InvalidText" : Str), ("InvalidTerm" : Str), false), (("InvalidCommand" : Str), ("InvalidTerm" : Str), false), (("InvalidPage" : Str), ("InvalidTerm" : Str), false), (("DuplicateName" : Str), ("InvalidTerm" : Str), false), (("TooDeep" : Str), ("InvalidTerm" : Str), false), (("TooMany" : Str), ("InvalidTerm" : Str), false), (("InUse" : Str), ("InvalidTerm" : Str), false), (("Unlike" : Str), ("InvalidTerm" : Str), false), (("Apart" : Str), ("InvalidTerm" : Str), false), (("Breaks" : Str), ("InvalidTerm" : Str), false), (("UnknownName" : Str), ("InvalidTerm" : Str), false), (("UnknownCell" : Str), ("InvalidTerm" : Str), false), (("NothingLeft" : Str), ("InvalidTerm" : Str), false), (("InvalidName" : Str), ("MapError" : Str), true), (("InvalidTerm" : Str), ("MapError" : Str), true), (("InvalidStatement" : Str), ("MapError" : Str), true), (("InvalidStep" : Str), ("MapError" : Str), true), (("InvalidNumber" : Str), ("MapError" : Str), true), (("InvalidLabel" : Str), ("MapError" : Str), true), (("InvalidKind" : Str), ("MapError" : Str), true), (("InvalidText" : Str), ("MapError" : Str), true), (("InvalidCommand" : Str), ("MapError" : Str), true), (("InvalidPage" : Str), ("MapError" : Str), true), (("DuplicateName" : Str), ("MapError" : Str), true), (("TooDeep" : Str), ("MapError" : Str), true), (("TooMany" : Str), ("MapError" : Str), true), (("InUse" : Str), ("MapError" : Str), true), (("Unlike" : Str), ("MapError" : Str), true), (("Apart" : Str), ("MapError" : Str), true), (("Breaks" : Str), ("MapError" : Str), true), (("UnknownName" : Str), ("MapError" : Str), false), (("UnknownCell" : Str), ("MapError" : Str), false), (("NothingLeft" : Str), ("MapError" : Str), false), (("InvalidName" : Str), ("Missing" : Str), false), (("InvalidTerm" : Str), ("Missing" : Str), false), (("InvalidStatement" : Str), ("Missing" : Str), false), (("InvalidStep" : Str), ("Missing" : Str), false), (("InvalidNumber" : Str), ("Missing" : Str), false), (("InvalidLabel" : Str), ("Missing" : Str), false), (("InvalidKind" : Str), ("Missing" : Str), false), (("InvalidText" : Str), ("Missing" : Str), false), (("InvalidCommand" : Str), ("Missing" : Str), false), (("InvalidPage" : Str), ("Missing" : Str), false), (("DuplicateName" : Str), ("Missing" : Str), false), (("TooDeep" : Str), ("Missing" : Str), false), (("TooMany" : Str), ("Missing" : Str), false), (("InUse" : Str), ("Missing" : Str), false), (("Unlike" : Str), ("Missing" : Str), false), (("Apart" : Str), ("Missing" : Str), false), (("Breaks" : Str), ("Missing" : Str), false), (("UnknownName" : Str), ("Missing" : Str), true), (("UnknownCell" : Str), ("Missing" : Str), true), (("NothingLeft" : Str), ("Missing" : Str), false), (("InvalidName" : Str), ("UnknownName" : Str), false), (("InvalidTerm" : Str), ("UnknownName" : Str), false), (("InvalidStatement" : Str), ("UnknownName" : Str), false), (("InvalidStep" : Str), ("UnknownName" : Str), false), (("InvalidNumber" : Str), ("UnknownName" : Str), false), (("InvalidLabel" : Str), ("UnknownName" : Str), false), (("InvalidKind" : Str), ("UnknownName" : Str), false), (("InvalidText" : Str), ("UnknownName" : Str), false), (("InvalidCommand" : Str), ("UnknownName" : Str), false), (("InvalidPage" : Str), ("UnknownName" : Str), false), (("DuplicateName" : Str), ("UnknownName" : Str), false), (("TooDeep" : Str), ("UnknownName" : Str), false), (("TooMany" : Str), ("UnknownName" : Str), false), (("InUse" : Str), ("UnknownName" : Str), false), (("Unlike" : Str), ("UnknownName" : Str), false), (("Apart" : Str), ("UnknownName" : Str), false), (("Breaks" : Str), ("UnknownName" : Str), false), (("UnknownName" : Str), ("UnknownName" : Str), true), (("UnknownCell" : Str), ("UnknownName" : Str), false), (("NothingLeft" : Str), ("UnknownName" : Str), false)]
def c_tt : List (Str × String × Bool) := [(("InvalidName" : Str), ("IndexError" : String), false), (("InvalidTerm" : Str), ("IndexError" : String), false), (("InvalidStatement" : Str), ("IndexError" : String), false), (("InvalidStep" : Str), ("IndexError" : String), false), (("InvalidNumber" : Str), ("IndexError" : String), false), (("InvalidLabel" : Str), ("IndexError" : String), false), (("InvalidKind" : Str), ("IndexError" : String), false), (("InvalidText" : Str), ("IndexError" : String), false), (("InvalidCommand" : Str), ("IndexError" : String), false), (("InvalidPage" : Str), ("IndexError" : String), false), (("DuplicateName" : Str), ("IndexError" : String), false), (("TooDeep" : Str), ("IndexError" : String), false), (("TooMany" : Str), ("IndexError" : String), false), (("InUse" : Str), ("IndexError" : String), false), (("Unlike" : Str), ("IndexError" : String), false), (("Apart" : Str), ("IndexError" : String), false), (("Breaks" : Str), ("IndexError" : String), false), (("UnknownName" : Str), ("IndexError" : String), false), (("UnknownCell" : Str), ("IndexError" : String), false), (("NothingLeft" : Str), ("IndexError" : String), true), (("InvalidName" : Str), ("LookupError" : String), false), (("InvalidTerm" : Str), ("LookupError" : String), false), (("InvalidStatement" : Str), ("LookupError" : String), false), (("InvalidStep" : Str), ("LookupError" : String), false), (("InvalidNumber" : Str), ("LookupError" : String), false), (("InvalidLabel" : Str), ("LookupError" : String), false), (("InvalidKind" : Str), ("LookupError" : String), false), (("InvalidText" : Str), ("LookupError" : String), false), (("InvalidCommand" : Str), ("LookupError" : String), false), (("InvalidPage" : Str), ("LookupError" : String), false), (("DuplicateName" : Str), ("LookupError" : String), false), (("TooDeep" : Str), ("LookupError" : String), false), (("TooMany" : Str), ("LookupError" : String), false), (("InUse" : Str), ("LookupError" : String), false), (("Unlike" : Str), ("LookupError" : String), false), (("Apart" : Str), ("LookupError" : String), false), (("Breaks" : Str), ("LookupError" : String), false), (("UnknownName" : Str), ("LookupError" : String), true), (("UnknownCell" : Str), ("LookupError" : String), true), (("NothingLeft" : Str), ("LookupError" : String), true), (("InvalidName" : Str), ("ValueError" : String), true), (("InvalidTerm" : Str), ("ValueError" : String), true), (("InvalidStatement" : Str), ("ValueError" : String), true), (("InvalidStep" : Str), ("ValueError" : String), true), (("InvalidNumber" : Str), ("ValueError" : String), true), (("InvalidLabel" : Str), ("ValueError" : String), true), (("InvalidKind" : Str), ("ValueError" : String), true), (("InvalidText" : Str), ("ValueError" : String), true), (("InvalidCommand" : Str), ("ValueError" : String), true), (("InvalidPage" : Str), ("ValueError" : String), true), (("DuplicateName" : Str), ("ValueError" : String), true), (("TooDeep" : Str), ("ValueError" : String), true), (("TooMany" : Str), ("ValueError" : String), true), (("InUse" : Str), ("ValueError" : String), true), (("Unlike" : Str), ("ValueError" : String), true), (("Apart" : Str), ("ValueError" : String), true), (("Breaks" : Str), ("ValueError" : String), true), (("UnknownName" : Str), ("ValueError" : String), false), (("UnknownCell" : Str), ("ValueError" : String), false), (("NothingLeft" : Str), ("ValueError" : String), false)]
abbrev s__law_cells : Stmt := topS 24
abbrev s__law_draw : Stmt := topS 25
abbrev s__law_one : Stmt := topS 26
abbrev s__law_same : Stmt := topS 27
abbrev s__law_extra : Stmt := topS 28
def sh__law_extra : SS := (mSeq (mIf (mBT (gEq false) (mUn (gXFld cs_code "code") (mVar 0)) (mC (.str "InvalidStep"))) (mRet (mUn (gXFld cs_path "path") (mVar 0))) mSkip)
  (mSeq (mIf (mBT (gIn false) (mUn (gXFld cs_code "code") (mVar 0)) (mAp gTup (mCons (mC (.str "InvalidText")) (mCons (mC (.str "InvalidPage")) mNil)))) (mRet (mUn (gXFld cs_line "line") (mVar 0))) mSkip)
  (mSeq (mIf (mBT (gEq false) (mUn (gXFld cs_code "code") (mVar 0)) (mC (.str "InvalidCommand"))) (mRet (mUn (gXFld cs_word "word") (mVar 0))) mSkip)
  (mSeq (mIf (mBT (gIn false) (mUn (gXFld cs_code "code") (mVar 0)) (mAp gTup (mCons (mC (.str "TooDeep")) (mCons (mC (.str "TooMany")) mNil)))) (mRet (mUn (gXFld cs_limit "limit") (mVar 0))) mSkip)
  (mSeq (mIf (mBT (gEq false) (mUn (gXFld cs_code "code") (mVar 0)) (mC (.str "InUse"))) (mRet (mUn (gXFld cs_user "user") (mVar 0))) mSkip)
  (mSeq (mIf (mBT (gEq false) (mUn (gXFld cs_code "code") (mVar 0)) (mC (.str "Breaks"))) (mRet (mAp gTup (mCons (mUn (gXFld cs_fact_name "fact_name") (mVar 0)) (mCons (mUn (gXFld cs_sheet_name "sheet_name") (mVar 0)) mNil)))) mSkip)
  (mRet (mIfE (mBT (gIn false) (mUn (gXFld cs_code "code") (mVar 0)) (mAp gTup (mCons (mC (.str "Unlike")) (mCons (mC (.str "Apart")) (mCons (mC (.str "NothingLeft")) mNil))))) (mC .non) (mUn (gXFld cs_value "value") (mVar 0))))))))))
def G__law_extra : Fn := runB 1 sh__law_extra
abbrev s__law_made_errors : Stmt := topS 29
def sh__law_made_errors : SS := (mSeq (mAsg (mAp gLst (mCons (mAp (gMakeX "InvalidName" p_InvalidName l_InvalidName) (mCons (mVar 0) mNil)) (mCons (mAp (gMakeX "InvalidTerm" p_InvalidTerm l_InvalidTerm) (mCons (mVar 0) mNil)) (mCons (mAp (gMakeX "InvalidStatement" p_InvalidStatement l_InvalidStatement) (mCons (mVar 0) mNil)) (mCons (mAp (gMakeX "InvalidNumber" p_InvalidNumber l_InvalidNumber) (mCons (mVar 0) mNil)) (mCons (mAp (gMakeX "InvalidLabel" p_InvalidLabel l_InvalidLabel) (mCons (mVar 0) mNil)) (mCons (mAp (gMakeX "InvalidKind" p_InvalidKind l_InvalidKind) (mCons (mVar 0) mNil)) (mCons (mAp (gMakeX "DuplicateName" p_DuplicateName l_DuplicateName) (mCons (mVar 0) mNil)) (mCons (mAp (gMakeX "UnknownName" p_UnknownName l_UnknownName) (mCons (mVar 0) mNil)) (mCons (mAp (gMakeX "UnknownCell" p_UnknownCell l_UnknownCell) (mCons (mVar 0) mNil)) mNil)))))))))) (gNm 2))
  (mSeq (mAsg (mAp gLst (mCons (mAp (gMakeX "InvalidStep" p_InvalidStep l_InvalidStep) (mCons (mVar 0) mNil)) (mCons (mAp (gMakeX "InvalidText" p_InvalidText l_InvalidText) (mCons (mVar 0) mNil)) (mCons (mAp (gMakeX "InvalidCommand" p_InvalidCommand l_InvalidCommand) (mCons (mVar 0) mNil)) (mCons (mAp (gMakeX "InvalidPage" p_InvalidPage l_InvalidPage) (mCons (mVar 0) mNil)) (mCons (mAp (gMakeX "TooDeep" p_TooDeep l_TooDeep) (mCons (mVar 0) mNil)) (mCons (mAp (gMakeX "TooMany" p_TooMany l_TooMany) (mCons (mVar 0) mNil)) (mCons (mAp (gMakeX "InUse" p_InUse l_InUse) (mCons (mVar 0) mNil)) (mCons (mAp (gMakeX "Breaks" p_Breaks l_Breaks) (mCons (mVar 0) (mCons (mVar 1) mNil))) (mCons (mAp (gMakeX "Unlike" p_Unlike l_Unlike) mNil) (mCons (mAp (gMakeX "Apart" p_Apart l_Apart) mNil) (mCons (mAp (gMakeX "NothingLeft" p_NothingLeft l_NothingLeft) mNil) mNil)))))))))))) (gNm 3))
  (mRet (mBin gAdd (mVar 2) (mVar 3)))))
def G__law_made_errors : Fn := runB 4 sh__law_made_errors
abbrev s__law_named_errors : Stmt := topS 30
def sh__law_named_errors : SS := (mSeq (mAsg (mAp gLst (mCons (mCallK [0] (gMakeX "InvalidName" p_InvalidName l_InvalidName) mNil (mCons (mVar 0) mNil)) (mCons (mCallK [0] (gMakeX "InvalidTerm" p_InvalidTerm l_InvalidTerm) mNil (mCons (mVar 0) mNil)) (mCons (mCallK [0] (gMakeX "InvalidStatement" p_InvalidStatement l_InvalidStatement) mNil (mCons (mVar 0) mNil)) (mCons (mCallK [0] (gMakeX "InvalidNumber" p_InvalidNumber l_InvalidNumber) mNil (mCons (mVar 0) mNil)) (mCons (mCallK [0] (gMakeX "InvalidLabel" p_InvalidLabel l_InvalidLabel) mNil (mCons (mVar 0) mNil)) (mCons (mCallK [0] (gMakeX "InvalidKind" p_InvalidKind l_InvalidKind) mNil (mCons (mVar 0) mNil)) mNil))))))) (gNm 2))
  (mSeq (mAsg (mBin gAdd (mVar 2) (mAp gLst (mCons (mCallK [0] (gMakeX "DuplicateName" p_DuplicateName l_DuplicateName) mNil (mCons (mVar 0) mNil)) (mCons (mCallK [0] (gMakeX "UnknownName" p_UnknownName l_UnknownName) mNil (mCons (mVar 0) mNil)) (mCons (mCallK [0] (gMakeX "UnknownCell" p_UnknownCell l_UnknownCell) mNil (mCons (mVar 0) mNil)) mNil))))) (gNm 2))
  (mSeq (mAsg (mAp gLst (mCons (mCallK [0] (gMakeX "InvalidStep" p_InvalidStep l_InvalidStep) mNil (mCons (mVar 0) mNil)) (mCons (mCallK [0] (gMakeX "InvalidText" p_InvalidText l_InvalidText) mNil (mCons (mVar 0) mNil)) (mCons (mCallK [0] (gMakeX "InvalidCommand" p_InvalidCommand l_InvalidCommand) mNil (mCons (mVar 0) mNil)) (mCons (mCallK [0] (gMakeX "InvalidPage" p_InvalidPage l_InvalidPage) mNil (mCons (mVar 0) mNil)) (mCons (mCallK [0] (gMakeX "TooDeep" p_TooDeep l_TooDeep) mNil (mCons (mVar 0) mNil)) (mCons (mCallK [0] (gMakeX "TooMany" p_TooMany l_TooMany) mNil (mCons (mVar 0) mNil)) (mCons (mCallK [0] (gMakeX "InUse" p_InUse l_InUse) mNil (mCons (mVar 0) mNil)) mNil)))))))) (gNm 3))
  (mRet (mBin gAdd (mBin gAdd (mVar 2) (mVar 3)) (mAp gLst (mCons (mCallK [1, 0] (gMakeX "Breaks" p_Breaks l_Breaks) mNil (mCons (mVar 1) (mCons (mVar 0) mNil))) (mCons (mAp (gMakeX "Unlike" p_Unlike l_Unlike) mNil) (mCons (mAp (gMakeX "Apart" p_Apart l_Apart) mNil) (mCons (mAp (gMakeX "NothingLeft" p_NothingLeft l_NothingLeft) mNil) mNil))))))))))
def G__law_named_errors : Fn := runB 4 sh__law_named_errors
abbrev s_law : Stmt := topS 31
def sh_law : SS := (mSeq (mAsg (mAp G__law_cells (mCons (mVar 0) mNil)) (gNm 1))
  (mSeq (mAsg (mLc (mRange1 (mCons (mC (.int 2)) mNil)) [9] (gNm 9) mYes (mAp G__law_one (mCons (mVar 1) (mCons (mAp gLst (mCons (mC .non) (mCons (mC (.int 0)) (mCons (mBin gSub (mC (.int 0)) (mC (.int 5))) (mCons (mC (.str "x")) (mCons (mAp gTup (mCons (mC (.int 1)) (mCons (mC (.int 2)) mNil))) (mCons (mC (.bl true)) (mCons (mBin gPow (mC (.int 10)) (mC (.int 25))) (mCons (mC (.str "")) (mCons (mAp gTup (mCons (mC (.str "a")) mNil)) mNil)))))))))) mNil)))) (gLs 2 (gCons (gNm 4) (gCons (gNm 5) gNil))))
  (mSeq (mAsg (mAp gLst (mCons (mC (.str "InvalidName")) (mCons (mC (.str "InvalidTerm")) (mCons (mC (.str "InvalidStatement")) (mCons (mC (.str "InvalidNumber")) (mCons (mC (.str "InvalidLabel")) (mCons (mC (.str "InvalidKind")) (mCons (mC (.str "DuplicateName")) (mCons (mC (.str "UnknownName")) (mCons (mC (.str "UnknownCell")) (mCons (mC (.str "InvalidStep")) (mCons (mC (.str "InvalidText")) (mCons (mC (.str "InvalidCommand")) (mCons (mC (.str "InvalidPage")) (mCons (mC (.str "TooDeep")) (mCons (mC (.str "TooMany")) (mCons (mC (.str "InUse")) (mCons (mC (.str "Breaks")) (mCons (mC (.str "Unlike")) (mCons (mC (.str "Apart")) (mCons (mC (.str "NothingLeft")) mNil))))))))))))))))))))) (gNm 2))
  (mSeq (mFor (mItems (mAp gLst (mCons (mAp G__law_made_errors (mCons (mVar 4) (mCons (mVar 5) mNil))) (mCons (mAp G__law_named_errors (mCons (mVar 4) (mCons (mVar 5) mNil))) mNil)))) (gNm 3) (mSeq (mIf (mNotT (mTru (mAp (G__law_same 10) (mCons (mLc (mItems (mVar 3)) [10] (gNm 10) mYes (mAp gTup (mCons (mUn (gXFld cs_code "code") (mVar 10)) (mCons (mAp G__law_extra (mCons (mVar 10) mNil)) mNil)))) (mCons (mBin gAdd (mLc (mItems (mSl (mVar 2) mNoPart (mPart (mC (.int 16))))) [11] (gNm 11) mYes (mAp gTup (mCons (mVar 11) (mCons (mVar 4) mNil)))) (mAp gLst (mCons (mAp gTup (mCons (mC (.str "Breaks")) (mCons (mAp gTup (mCons (mVar 4) (mCons (mVar 5) mNil))) mNil))) (mCons (mAp gTup (mCons (mC (.str "Unlike")) (mCons (mC .non) mNil))) (mCons (mAp gTup (mCons (mC (.str "Apart")) (mCons (mC .non) mNil))) (mCons (mAp gTup (mCons (mC (.str "NothingLeft")) (mCons (mC .non) mNil))) mNil)))))) mNil))))) (mRet (mC (.bl false))) mSkip)
  (mSeq (mAsg (mLc (mItems (mVar 3)) [10] (gNm 10) mYes (mAp gTup (mCons (mAp (gIsiX c_tg c_tt) (mCons (mVar 10) (mCons (mC (.gl "MapError")) mNil))) (mCons (mAp (gIsiX c_tg c_tt) (mCons (mVar 10) (mCons (mC (.ty "ValueError")) mNil))) (mCons (mAp (gIsiX c_tg c_tt) (mCons (mVar 10) (mCons (mC (.gl "Missing")) mNil))) (mCons (mAp (gIsiX c_tg c_tt) (mCons (mVar 10) (mCons (mC (.ty "LookupError")) mNil))) (mCons (mAp (gIsiX c_tg c_tt) (mCons (mVar 10) (mCons (mC (.ty "IndexError")) mNil))) mNil))))))) (gNm 6))
  (mSeq (mAsg (mLc (mItems (mVar 2)) [11] (gNm 11) mYes (mIfE (mBT (gIn true) (mVar 11) (mAp gTup (mCons (mC (.str "UnknownName")) (mCons (mC (.str "UnknownCell")) (mCons (mC (.str "NothingLeft")) mNil))))) (mAp gTup (mCons (mC (.bl true)) (mCons (mC (.bl true)) (mCons (mC (.bl false)) (mCons (mC (.bl false)) (mCons (mC (.bl false)) mNil)))))) (mAp gTup (mCons (mC (.bl false)) (mCons (mC (.bl false)) (mCons (mBin (gEq true) (mVar 11) (mC (.str "NothingLeft"))) (mCons (mC (.bl true)) (mCons (mBin (gEq false) (mVar 11) (mC (.str "NothingLeft"))) mNil)))))))) (gNm 7))
  (mSeq (mIf (mNotT (mTru (mAp (G__law_same 10) (mCons (mVar 6) (mCons (mVar 7) mNil))))) (mRet (mC (.bl false))) mSkip)
  (mSeq (mAsg (mBin gAdd (mBin gAdd (mLc (mItems (mVar 3)) [10] (gNm 10) mYes (mAp (gIsiX c_tg c_tt) (mCons (mVar 10) (mCons (mC (.gl "InvalidName")) mNil)))) (mLc (mItems (mVar 3)) [10] (gNm 10) mYes (mAp (gIsiX c_tg c_tt) (mCons (mVar 10) (mCons (mC (.gl "InvalidTerm")) mNil))))) (mLc (mItems (mVar 3)) [10] (gNm 10) mYes (mAp (gIsiX c_tg c_tt) (mCons (mVar 10) (mCons (mC (.gl "UnknownName")) mNil))))) (gNm 8))
  (mIf (mBT (gEq true) (mVar 8) (mBin gAdd (mBin gAdd (mLc (mRange1 (mCons (mC (.int 20)) mNil)) [9] (gNm 9) mYes (mBin (gEq false) (mVar 9) (mC (.int 0)))) (mLc (mRange1 (mCons (mC (.int 20)) mNil)) [9] (gNm 9) mYes (mBin (gEq false) (mVar 9) (mC (.int 1))))) (mLc (mRange1 (mCons (mC (.int 20)) mNil)) [9] (gNm 9) mYes (mBin (gEq false) (mVar 9) (mC (.int 7)))))) (mRet (mC (.bl false))) mSkip)))))))
  (mRet (mC (.bl true)))))))
def G_law : Fn := runB 12 sh_law
structure Txt (w : World) (K : PySem.W.Frag) (mg : Str → Option Value) : Prop where
  z_IndexError : mg "IndexError" = none
  z_LookupError : mg "LookupError" = none
  z_ValueError : mg "ValueError" = none
  z_all : mg "all" = none
  z_bool : mg "bool" = none
  z_int : mg "int" = none
  z_isinstance : mg "isinstance" = none
  z_len : mg "len" = none
  z_list : mg "list" = none
  z_range : mg "range" = none
  z_str : mg "str" = none
  z_super : mg "super" = none
  z_tuple : mg "tuple" = none
  z_zip : mg "zip" = none
  k_InvalidName : KCon K mg "InvalidName" (.gl "InvalidName")
  k_InvalidTerm : KCon K mg "InvalidTerm" (.gl "InvalidTerm")
  k_MapError : KCon K mg "MapError" (.gl "MapError")
  k_Missing : KCon K mg "Missing" (.gl "Missing")
  k_UnknownName : KCon K mg "UnknownName" (.gl "UnknownName")
  x_Apart : XTx K mg "Apart" s_Apart "self" p_Apart l_Apart "/claim/cut.py"
  x_Breaks : XTx K mg "Breaks" s_Breaks "self" p_Breaks l_Breaks "/claim/cut.py"
  x_DuplicateName : XTx K mg "DuplicateName" s_DuplicateName "self" p_DuplicateName l_DuplicateName "/claim/cut.py"
  x_InUse : XTx K mg "InUse" s_InUse "self" p_InUse l_InUse "/claim/cut.py"
  x_InvalidCommand : XTx K mg "InvalidCommand" s_InvalidCommand "self" p_InvalidCommand l_InvalidCommand "/claim/cut.py"
  x_InvalidKind : XTx K mg "InvalidKind" s_InvalidKind "self" p_InvalidKind l_InvalidKind "/claim/cut.py"
  x_InvalidLabel : XTx K mg "InvalidLabel" s_InvalidLabel "self" p_InvalidLabel l_InvalidLabel "/claim/cut.py"
  x_InvalidName : XTx K mg "InvalidName" s_InvalidName "self" p_InvalidName l_InvalidName "/claim/cut.py"
  x_InvalidNumber : XTx K mg "InvalidNumber" s_InvalidNumber "self" p_InvalidNumber l_InvalidNumber "/claim/cut.py"
  x_InvalidPage : XTx K mg "InvalidPage" s_InvalidPage "self" p_InvalidPage l_InvalidPage "/claim/cut.py"
  x_InvalidStatement : XTx K mg "InvalidStatement" s_InvalidStatement "self" p_InvalidStatement l_InvalidStatement "/claim/cut.py"
  x_InvalidStep : XTx K mg "InvalidStep" s_InvalidStep "self" p_InvalidStep l_InvalidStep "/claim/cut.py"
  x_InvalidTerm : XTx K mg "InvalidTerm" s_InvalidTerm "self" p_InvalidTerm l_InvalidTerm "/claim/cut.py"
  x_InvalidText : XTx K mg "InvalidText" s_InvalidText "self" p_InvalidText l_InvalidText "/claim/cut.py"
  x_NothingLeft : XTx K mg "NothingLeft" s_NothingLeft "self" p_NothingLeft l_NothingLeft "/claim/cut.py"
  x_TooDeep : XTx K mg "TooDeep" s_TooDeep "self" p_TooDeep l_TooDeep "/claim/cut.py"
  x_TooMany : XTx K mg "TooMany" s_TooMany "self" p_TooMany l_TooMany "/claim/cut.py"
  x_UnknownCell : XTx K mg "UnknownCell" s_UnknownCell "self" p_UnknownCell l_UnknownCell "/claim/cut.py"
  x_UnknownName : XTx K mg "UnknownName" s_UnknownName "self" p_UnknownName l_UnknownName "/claim/cut.py"
  x_Unlike : XTx K mg "Unlike" s_Unlike "self" p_Unlike l_Unlike "/claim/cut.py"
  xf_code : XfT K mg cs_code "code"
  xf_fact_name : XfT K mg cs_fact_name "fact_name"
  xf_limit : XfT K mg cs_limit "limit"
  xf_line : XfT K mg cs_line "line"
  xf_path : XfT K mg cs_path "path"
  xf_sheet_name : XfT K mg cs_sheet_name "sheet_name"
  xf_user : XfT K mg cs_user "user"
  xf_value : XfT K mg cs_value "value"
  xf_word : XfT K mg cs_word "word"
  ig : XiG K mg c_tg
  it : XiY K mg c_tt
  f__law_cells : FTx K mg "_law_cells" s__law_cells ["_law_script"]
  f__law_draw : FTx K mg "_law_draw" s__law_draw ["_law_bag", "_law_sides"]
  f__law_one : FTx K mg "_law_one" s__law_one ["_law_bag", "_law_things"]
  f__law_same : FTx K mg "_law_same" s__law_same ["_law_found", "_law_due"]
  f__law_extra : FTx K mg "_law_extra" s__law_extra ["_law_e"]
  f__law_made_errors : FTx K mg "_law_made_errors" s__law_made_errors ["_law_a", "_law_b"]
  f__law_named_errors : FTx K mg "_law_named_errors" s__law_named_errors ["_law_a", "_law_b"]
  f_law : FTx K mg "law" s_law ["_law_script"]
section
variable {P : Program} {w : World} {K : PySem.W.Frag} {mg : Str → Option Value} {base : Heap}
theorem sx_Apart : StX s_Apart "self" p_Apart l_Apart := ⟨⟨_, _, _, _, _, _, _, _, _, rfl, (.lit REX.Asn.nil), fun env => ⟨_, rfl⟩⟩, ⟨_, rfl, rfl⟩, by decide +kernel, rfl, rfl, rfl, by decide +kernel, by decide +kernel, rfl, rfl, by decide +kernel, by decide +kernel, fun _ _ _ _ _ _ _ _ us hl => match us, hl with | [_], _ => rfl, by decide +kernel, RL.hpar_of (by decide +kernel)⟩
theorem sx_Breaks : StX s_Breaks "self" p_Breaks l_Breaks := ⟨⟨_, _, _, _, _, _, _, _, _, rfl, (.lit (.par (.par REX.Asn.nil))), fun env => ⟨_, rfl⟩⟩, ⟨_, rfl, rfl⟩, by decide +kernel, rfl, rfl, rfl, by decide +kernel, by decide +kernel, rfl, rfl, by decide +kernel, by decide +kernel, fun _ _ _ _ _ _ _ _ us hl => match us, hl with | [_, _, _], _ => rfl, by decide +kernel, RL.hpar_of (by decide +kernel)⟩
theorem sx_DuplicateName : StX s_DuplicateName "self" p_DuplicateName l_DuplicateName := ⟨⟨_, _, _, _, _, _, _, _, _, rfl, (.lit (.par REX.Asn.nil)), fun env => ⟨_, rfl⟩⟩, ⟨_, rfl, rfl⟩, by decide +kernel, rfl, rfl, rfl, by decide +kernel, by decide +kernel, rfl, rfl, by decide +kernel, by decide +kernel, fun _ _ _ _ _ _ _ _ us hl => match us, hl with | [_, _], _ => rfl, by decide +kernel, RL.hpar_of (by decide +kernel)⟩
theorem sx_InUse : StX s_InUse "self" p_InUse l_InUse := ⟨⟨_, _, _, _, _, _, _, _, _, rfl, (.lit (.par REX.Asn.nil)), fun env => ⟨_, rfl⟩⟩, ⟨_, rfl, rfl⟩, by decide +kernel, rfl, rfl, rfl, by decide +kernel, by decide +kernel, rfl, rfl, by decide +kernel, by decide +kernel, fun _ _ _ _ _ _ _ _ us hl => match us, hl with | [_, _], _ => rfl, by decide +kernel, RL.hpar_of (by decide +kernel)⟩
theorem sx_InvalidCommand : StX s_InvalidCommand "self" p_InvalidCommand l_InvalidCommand := ⟨⟨_, _, _, _, _, _, _, _, _, rfl, (.lit (.par REX.Asn.nil)), fun env => ⟨_, rfl⟩⟩, ⟨_, rfl, rfl⟩, by decide +kernel, rfl, rfl, rfl, by decide +kernel, by decide +kernel, rfl, rfl, by decide +kernel, by decide +kernel, fun _ _ _ _ _ _ _ _ us hl => match us, hl with | [_, _], _ => rfl, by decide +kernel, RL.hpar_of (by decide +kernel)⟩
theorem sx_InvalidKind : StX s_InvalidKind "self" p_InvalidKind l_InvalidKind := ⟨⟨_, _, _, _, _, _, _, _, _, rfl, (.lit (.par REX.Asn.nil)), fun env => ⟨_, rfl⟩⟩, ⟨_, rfl, rfl⟩, by decide +kernel, rfl, rfl, rfl, by decide +kernel, by decide +kernel, rfl, rfl, by decide +kernel, by decide +kernel, fun _ _ _ _ _ _ _ _ us hl => match us, hl with | [_, _], _ => rfl, by decide +kernel, RL.hpar_of (by decide +kernel)⟩
theorem sx_InvalidLabel : StX s_InvalidLabel "self" p_InvalidLabel l_InvalidLabel := ⟨⟨_, _, _, _, _, _, _, _, _, rfl, (.lit (.par REX.Asn.nil)), fun env => ⟨_, rfl⟩⟩, ⟨_, rfl, rfl⟩, by decide +kernel, rfl, rfl, rfl, by decide +kernel, by decide +kernel, rfl, rfl, by decide +kernel, by decide +kernel, fun _ _ _ _ _ _ _ _ us hl => match us, hl with | [_, _], _ => rfl, by decide +kernel, RL.hpar_of (by decide +kernel)⟩
theorem sx_InvalidName : StX s_InvalidName "self" p_InvalidName l_InvalidName := ⟨⟨_, _, _, _, _, _, _, _, _, rfl, (.lit (.par REX.Asn.nil)), fun env => ⟨_, rfl⟩⟩, ⟨_, rfl, rfl⟩, by decide +kernel, rfl, rfl, rfl, by decide +kernel, by decide +kernel, rfl, rfl, by decide +kernel, by decide +kernel, fun _ _ _ _ _ _ _ _ us hl => match us, hl with | [_, _], _ => rfl, by decide +kernel, RL.hpar_of (by decide +kernel)⟩
theorem sx_InvalidNumber : StX s_InvalidNumber "self" p_InvalidNumber l_InvalidNumber := ⟨⟨_, _, _, _, _, _, _, _, _, rfl, (.lit (.par REX.Asn.nil)), fun env => ⟨_, rfl⟩⟩, ⟨_, rfl, rfl⟩, by decide +kernel, rfl, rfl, rfl, by decide +kernel, by decide +kernel, rfl, rfl, by decide +kernel, by decide +kernel, fun _ _ _ _ _ _ _ _ us hl => match us, hl with | [_, _], _ => rfl, by decide +kernel, RL.hpar_of (by decide +kernel)⟩
theorem sx_InvalidPage : StX s_InvalidPage "self" p_InvalidPage l_InvalidPage := ⟨⟨_, _, _, _, _, _, _, _, _, rfl, (.lit (.par REX.Asn.nil)), fun env => ⟨_, rfl⟩⟩, ⟨_, rfl, rfl⟩, by decide +kernel, rfl, rfl, rfl, by decide +kernel, by decide +kernel, rfl, rfl, by decide +kernel, by decide +kernel, fun _ _ _ _ _ _ _ _ us hl => match us, hl with | [_, _], _ => rfl, by decide +kernel, RL.hpar_of (by decide +kernel)⟩
theorem sx_InvalidStatement : StX s_InvalidStatement "self" p_InvalidStatement l_InvalidStatement := ⟨⟨_, _, _, _, _, _, _, _, _, rfl, (.lit (.par REX.Asn.nil)), fun env => ⟨_, rfl⟩⟩, ⟨_, rfl, rfl⟩, by decide +kernel, rfl, rfl, rfl, by decide +kernel, by decide +kernel, rfl, rfl, by decide +kernel, by decide +kernel, fun _ _ _ _ _ _ _ _ us hl => match us, hl with | [_, _], _ => rfl, by decide +kernel, RL.hpar_of (by decide +kernel)⟩
theorem sx_InvalidStep : StX s_InvalidStep "self" p_InvalidStep l_InvalidStep := ⟨⟨_, _, _, _, _, _, _, _, _, rfl, (.lit (.par REX.Asn.nil)), fun env => ⟨_, rfl⟩⟩, ⟨_, rfl, rfl⟩, by decide +kernel, rfl, rfl, rfl, by decide +kernel, by decide +kernel, rfl, rfl, by decide +kernel, by decide +kernel, fun _ _ _ _ _ _ _ _ us hl => match us, hl with | [_, _], _ => rfl, by decide +kernel, RL.hpar_of (by decide +kernel)⟩
theorem sx_InvalidTerm : StX s_InvalidTerm "self" p_InvalidTerm l_InvalidTerm := ⟨⟨_, _, _, _, _, _, _, _, _, rfl, (.lit (.par REX.Asn.nil)), fun env => ⟨_, rfl⟩⟩, ⟨_, rfl, rfl⟩, by decide +kernel, rfl, rfl, rfl, by decide +kernel, by decide +kernel, rfl, rfl, by decide +kernel, by decide +kernel, fun _ _ _ _ _ _ _ _ us hl => match us, hl with | [_, _], _ => rfl, by decide +kernel, RL.hpar_of (by decide +kernel)⟩
theorem sx_InvalidText : StX s_InvalidText "self" p_InvalidText l_InvalidText := ⟨⟨_, _, _, _, _, _, _, _, _, rfl, (.lit (.par REX.Asn.nil)), fun env => ⟨_, rfl⟩⟩, ⟨_, rfl, rfl⟩, by decide +kernel, rfl, rfl, rfl, by decide +kernel, by decide +kernel, rfl, rfl, by decide +kernel, by decide +kernel, fun _ _ _ _ _ _ _ _ us hl => match us, hl with | [_, _], _ => rfl, by decide +kernel, RL.hpar_of (by decide +kernel)⟩
theorem sx_NothingLeft : StX s_NothingLeft "self" p_NothingLeft l_NothingLeft := ⟨⟨_, _, _, _, _, _, _, _, _, rfl, (.lit REX.Asn.nil), fun env => ⟨_, rfl⟩⟩, ⟨_, rfl, rfl⟩, by decide +kernel, rfl, rfl, rfl, by decide +kernel, by decide +kernel, rfl, rfl, by decide +kernel, by decide +kernel, fun _ _ _ _ _ _ _ _ us hl => match us, hl with | [_], _ => rfl, by decide +kernel, RL.hpar_of (by decide +kernel)⟩
theorem sx_TooDeep : StX s_TooDeep "self" p_TooDeep l_TooDeep := ⟨⟨_, _, _, _, _, _, _, _, _, rfl, (.lit (.par REX.Asn.nil)), fun env => ⟨_, rfl⟩⟩, ⟨_, rfl, rfl⟩, by decide +kernel, rfl, rfl, rfl, by decide +kernel, by decide +kernel, rfl, rfl, by decide +kernel, by decide +kernel, fun _ _ _ _ _ _ _ _ us hl => match us, hl with | [_, _], _ => rfl, by decide +kernel, RL.hpar_of (by decide +kernel)⟩
theorem sx_TooMany : StX s_TooMany "self" p_TooMany l_TooMany := ⟨⟨_, _, _, _, _, _, _, _, _, rfl, (.lit (.par REX.Asn.nil)), fun env => ⟨_, rfl⟩⟩, ⟨_, rfl, rfl⟩, by decide +kernel, rfl, rfl, rfl, by decide +kernel, by decide +kernel, rfl, rfl, by decide +kernel, by decide +kernel, fun _ _ _ _ _ _ _ _ us hl => match us, hl with | [_, _], _ => rfl, by decide +kernel, RL.hpar_of (by decide +kernel)⟩
theorem sx_UnknownCell : StX s_UnknownCell "self" p_UnknownCell l_UnknownCell := ⟨⟨_, _, _, _, _, _, _, _, _, rfl, (.lit (.par REX.Asn.nil)), fun env => ⟨_, rfl⟩⟩, ⟨_, rfl, rfl⟩, by decide +kernel, rfl, rfl, rfl, by decide +kernel, by decide +kernel, rfl, rfl, by decide +kernel, by decide +kernel, fun _ _ _ _ _ _ _ _ us hl => match us, hl with | [_, _], _ => rfl, by decide +kernel, RL.hpar_of (by decide +kernel)⟩
theorem sx_UnknownName : StX s_UnknownName "self" p_UnknownName l_UnknownName := ⟨⟨_, _, _, _, _, _, _, _, _, rfl, (.lit (.par REX.Asn.nil)), fun env => ⟨_, rfl⟩⟩, ⟨_, rfl, rfl⟩, by decide +kernel, rfl, rfl, rfl, by decide +kernel, by decide +kernel, rfl, rfl, by decide +kernel, by decide +kernel, fun _ _ _ _ _ _ _ _ us hl => match us, hl with | [_, _], _ => rfl, by decide +kernel, RL.hpar_of (by decide +kernel)⟩
theorem sx_Unlike : StX s_Unlike "self" p_Unlike l_Unlike := ⟨⟨_, _, _, _, _, _, _, _, _, rfl, (.lit REX.Asn.nil), fun env => ⟨_, rfl⟩⟩, ⟨_, rfl, rfl⟩, by decide +kernel, rfl, rfl, rfl, by decide +kernel, by decide +kernel, rfl, rfl, by decide +kernel, by decide +kernel, fun _ _ _ _ _ _ _ _ us hl => match us, hl with | [_], _ => rfl, by decide +kernel, RL.hpar_of (by decide +kernel)⟩
theorem sc__law_cells : FnScope ["_law_script", "_law_seed", "_law_cell"] ["_law_script"] (defScope s__law_cells) := ⟨rfl, rfl, rfl, by decide +kernel, rfl, by decide +kernel, by decide +kernel⟩
theorem ok__law_cells (T : Txt w K mg) (hP : REX.PrgOk P "/claim/cut.py") : FnE P w K mg base 1 "_law_cells" s__law_cells ["_law_script"] G__law_cells := fn_e T.f__law_cells sc__law_cells fun f cdv A outer s H E hr tk => by
    exact (psm_cons (psm_set 1 pm_int sc__law_cells.nd)
      (psm_cons (psm_for (vs := [2]) (passes_of rfl) rfl (pim_any (pm_slice (pm_var 0) pom_none (pom_some pm_int))) (pgm_name 2 sc__law_cells.nd) (psm_one (psm_set 1 (pm_bin om_mod (pm_callTy cm_int T.z_int (pam_cons (pm_bin om_add (pm_bin om_add (pm_bin om_mul (pm_var 1) pm_int) (pm_bin om_mod (pm_callTy cm_int T.z_int (pam_cons (pm_var 2) pam_nil)) pm_int)) pm_int) pam_nil)) pm_int) sc__law_cells.nd)))
      (psm_one (psm_ret (pm_lstR (pam_cons (pm_callTy cm_list T.z_list (pam_cons (pm_slice (pm_var 0) pom_none (pom_some pm_int)) pam_nil)) (pam_cons pm_int (pam_cons pm_int (pam_cons (pm_var 1) (pam_cons pm_int pam_nil))))))))))
theorem sc__law_draw : FnScope ["_law_bag", "_law_sides", "_law_seed", "_law_cell", "_law_digit"] ["_law_bag", "_law_sides"] (defScope s__law_draw) := ⟨rfl, rfl, rfl, by decide +kernel, rfl, by decide +kernel, by decide +kernel⟩
theorem ok__law_draw (T : Txt w K mg) (hP : REX.PrgOk P "/claim/cut.py") : FnE P w K mg base 1 "_law_draw" s__law_draw ["_law_bag", "_law_sides"] G__law_draw := fn_e T.f__law_draw sc__law_draw fun f cdv A outer s H E hr tk => by
    exact (psm_cons (psm_asg (vs := []) (pm_bin om_add (pm_ix (pm_var 0) pm_int) pm_int) (pgm_sub (pm_var 0) pm_int))
      (psm_cons (psm_if (PWM.pt (pwm_and (ptm_cmp (om_eq (hu64 hr)) (pm_ix (pm_var 0) pm_int) pm_int) (pwm_and1 (ptm_cmp om_lt (pm_ix (pm_var 0) pm_int) (pm_callB cm_len T.z_len (pam_cons (pm_ix (pm_var 0) pm_int) pam_nil)))))) (psm_cons (psm_set 3 (pm_ix (pm_ix (pm_var 0) pm_int) (pm_ix (pm_var 0) pm_int)) sc__law_draw.nd)
      (psm_cons (psm_asg (vs := []) (pm_bin om_add (pm_ix (pm_var 0) pm_int) pm_int) (pgm_sub (pm_var 0) pm_int))
      (psm_one (psm_if (ptm_cmp om_ge (pm_var 3) (pm_bin om_pow pm_int pm_int)) (psm_one (psm_asg (vs := []) (pm_var 3) (pgm_sub (pm_var 0) pm_int))) (psm_one (psm_asg (vs := []) (pm_bin om_mod (pm_callTy cm_int T.z_int (pam_cons (pm_bin om_add (pm_bin om_add (pm_bin om_mul (pm_ix (pm_var 0) pm_int) pm_int) (pm_bin om_mul (pm_bin om_mod (pm_callTy cm_int T.z_int (pam_cons (pm_var 3) pam_nil)) pm_int) pm_int)) pm_int) pam_nil)) pm_int) (pgm_sub (pm_var 0) pm_int))))))) psm_nil)
      (psm_cons (psm_if (ptm_cmp om_gt (pm_ix (pm_var 0) pm_int) pm_int) (psm_cons (psm_set 4 (pm_bin om_mod (pm_callTy cm_int T.z_int (pam_cons (pm_ix (pm_var 0) pm_int) pam_nil)) (pm_var 1)) sc__law_draw.nd)
      (psm_cons (psm_asg (vs := []) (pm_bin om_div (pm_ix (pm_var 0) pm_int) (pm_var 1)) (pgm_sub (pm_var 0) pm_int))
      (psm_one (psm_ret (pm_var 4))))) psm_nil)
      (psm_cons (psm_set 2 (pm_ix (pm_var 0) pm_int) sc__law_draw.nd)
      (psm_cons (psm_asg (vs := []) (pm_bin om_mod (pm_callTy cm_int T.z_int (pam_cons (pm_bin om_add (pm_bin om_add (pm_bin om_add (pm_bin om_mul (pm_bin om_mul (pm_var 2) (pm_var 2)) pm_int) (pm_bin om_mul (pm_var 2) pm_int)) (pm_bin om_mul (pm_ix (pm_var 0) pm_int) pm_int)) pm_int) pam_nil)) pm_int) (pgm_sub (pm_var 0) pm_int))
      (psm_one (psm_ret (pm_bin om_mod (pm_callTy cm_int T.z_int (pam_cons (pm_bin om_add (pm_bin om_div (pm_ix (pm_var 0) pm_int) pm_int) (pm_bin om_mul (pm_bin om_mod (pm_callTy cm_int T.z_int (pam_cons (pm_ix (pm_var 0) pm_int) pam_nil)) pm_int) pm_int)) pam_nil)) (pm_var 1)))))))))
theorem sc__law_one : FnScope ["_law_bag", "_law_things"] ["_law_bag", "_law_things"] (defScope s__law_one) := ⟨rfl, rfl, rfl, by decide +kernel, rfl, by decide +kernel, by decide +kernel⟩
theorem ok__law_one (T : Txt w K mg) (hP : REX.PrgOk P "/claim/cut.py") (h__law_draw : FnE P w K mg base 1 "_law_draw" s__law_draw ["_law_bag", "_law_sides"] G__law_draw) : FnE P w K mg base 2 "_law_one" s__law_one ["_law_bag", "_law_things"] G__law_one := fn_e T.f__law_one sc__law_one fun f cdv A outer s H E hr tk => by
    exact (psm_one (psm_ret (pm_ix (pm_var 1) (pm_callE h__law_draw hr (by decide) tk (pam_cons (pm_var 0) (pam_cons (pm_callB cm_len T.z_len (pam_cons (pm_var 1) pam_nil)) pam_nil))))))
theorem sc__law_same : FnScope ["_law_found", "_law_due", "_law_a", "_law_b"] ["_law_found", "_law_due"] (defScope s__law_same) := ⟨rfl, rfl, rfl, by decide +kernel, rfl, by decide +kernel, by decide +kernel⟩
theorem ok__law_same (T : Txt w K mg) (hP : REX.PrgOk P "/claim/cut.py") : ∀ n : Nat, FnE P w K mg base (0 + n) "_law_same" s__law_same ["_law_found", "_law_due"] (G__law_same n)
  | 0 => fnE_bad T.f__law_same
  | n + 1 => fn_e T.f__law_same sc__law_same fun f cdv A outer s H E hr tk => by
    have h__law_same := ok__law_same T hP n
    exact (psm_cons (psm_if (ptm_tru (pm_callB (cm_isi ktB_ok) T.z_isinstance (pam_cons (pm_var 1) (pam_cons (pm_tup (pam_cons (pm_ty (n := "list") T.z_list) (pam_cons (pm_ty (n := "tuple") T.z_tuple) pam_nil))) pam_nil)))) (psm_cons (psm_if (PWM.pt (pwm_or (ptm_cmp (om_ne (hu64 hr)) (pm_callB (cm_isi ktB_ok) T.z_isinstance (pam_cons (pm_var 0) (pam_cons (pm_ty (n := "list") T.z_list) pam_nil))) (pm_callB (cm_isi ktB_ok) T.z_isinstance (pam_cons (pm_var 1) (pam_cons (pm_ty (n := "list") T.z_list) pam_nil)))) (pwm_or1 (ptm_cmp (om_ne (hu64 hr)) (pm_callB (cm_isi ktB_ok) T.z_isinstance (pam_cons (pm_var 0) (pam_cons (pm_ty (n := "tuple") T.z_tuple) pam_nil))) (pm_callB (cm_isi ktB_ok) T.z_isinstance (pam_cons (pm_var 1) (pam_cons (pm_ty (n := "tuple") T.z_tuple) pam_nil))))))) (psm_one (psm_ret pm_bl)) psm_nil)
      (psm_one (psm_ret (pm_and (pm_cmp (om_eq (hu64 hr)) (pm_callB cm_len T.z_len (pam_cons (pm_var 0) pam_nil)) (pm_callB cm_len T.z_len (pam_cons (pm_var 1) pam_nil))) (pm_one (pm_callB (cm_all rfl) T.z_all (pam_cons (pm_lc (own := [("_law_a", 2), ("_law_b", 3)]) rfl sc__law_same.nd (pim_zip T.z_zip (pam_cons (pm_var 0) (pam_cons (pm_var 1) pam_nil))) (show blkC ["_law_found", "_law_due", "_law_a", "_law_b"] (defScope s__law_same) _ [("_law_a", 2), ("_law_b", 3)] = true by decide +kernel) ⟨fun _ _ _ _ _ => (pgm_tup (n := 2) rfl (pgm_cons (pgm_name 2 sc__law_same.nd) (pgm_cons (pgm_name 3 sc__law_same.nd) pgm_nil))), fun _ _ _ _ _ => ptsm_nil, fun _ _ _ _ _ => (pm_callE h__law_same hr (Nat.le_refl _) takesE0 (pam_cons (pm_var 2) (pam_cons (pm_var 3) pam_nil)))⟩) pam_nil))))))) psm_nil)
      (psm_cons (psm_if (PWM.pt (pwm_or (ptm_cmp om_is (pm_var 1) pm_non) (pwm_or1 (ptm_cmp om_is (pm_var 0) pm_non)))) (psm_one (psm_ret (pm_and (pm_cmp om_is (pm_var 1) pm_non) (pm_one (pm_cmp om_is (pm_var 0) pm_non))))) psm_nil)
      (psm_cons (psm_if (PWM.pt (pwm_or (ptm_cmp (om_ne (hu64 hr)) (pm_callB (cm_isi ktB_ok) T.z_isinstance (pam_cons (pm_var 1) (pam_cons (pm_ty (n := "bool") T.z_bool) pam_nil))) (pm_callB (cm_isi ktB_ok) T.z_isinstance (pam_cons (pm_var 0) (pam_cons (pm_ty (n := "bool") T.z_bool) pam_nil)))) (pwm_or1 (ptm_cmp (om_ne (hu64 hr)) (pm_callB (cm_isi ktB_ok) T.z_isinstance (pam_cons (pm_var 1) (pam_cons (pm_ty (n := "int") T.z_int) pam_nil))) (pm_callB (cm_isi ktB_ok) T.z_isinstance (pam_cons (pm_var 0) (pam_cons (pm_ty (n := "int") T.z_int) pam_nil))))))) (psm_one (psm_ret pm_bl)) psm_nil)
      (psm_one (psm_ret (pm_and (pm_cmp (om_eq (hu64 hr)) (pm_callB (cm_isi ktB_ok) T.z_isinstance (pam_cons (pm_var 1) (pam_cons (pm_ty (n := "str") T.z_str) pam_nil))) (pm_callB (cm_isi ktB_ok) T.z_isinstance (pam_cons (pm_var 0) (pam_cons (pm_ty (n := "str") T.z_str) pam_nil)))) (pm_one (pm_cmp (om_eq (hu64 hr)) (pm_var 0) (pm_var 1)))))))))
theorem sc__law_extra : FnScope ["_law_e"] ["_law_e"] (defScope s__law_extra) := ⟨rfl, rfl, rfl, by decide +kernel, rfl, by decide +kernel, by decide +kernel⟩
theorem ok__law_extra (T : Txt w K mg) (hP : REX.PrgOk P "/claim/cut.py") : FnE P w K mg base 1 "_law_extra" s__law_extra ["_law_e"] G__law_extra := fn_e T.f__law_extra sc__law_extra fun f cdv A outer s H E hr tk => by
    exact (psm_cons (psm_if (ptm_cmp (om_eq (hu64 hr)) (pm_xfld T.xf_code (pm_var 0)) pm_str) (psm_one (psm_ret (pm_xfld T.xf_path (pm_var 0)))) psm_nil)
      (psm_cons (psm_if (ptm_cmp (om_in (hu65 hr)) (pm_xfld T.xf_code (pm_var 0)) (pm_tup (pam_cons pm_str (pam_cons pm_str pam_nil)))) (psm_one (psm_ret (pm_xfld T.xf_line (pm_var 0)))) psm_nil)
      (psm_cons (psm_if (ptm_cmp (om_eq (hu64 hr)) (pm_xfld T.xf_code (pm_var 0)) pm_str) (psm_one (psm_ret (pm_xfld T.xf_word (pm_var 0)))) psm_nil)
      (psm_cons (psm_if (ptm_cmp (om_in (hu65 hr)) (pm_xfld T.xf_code (pm_var 0)) (pm_tup (pam_cons pm_str (pam_cons pm_str pam_nil)))) (psm_one (psm_ret (pm_xfld T.xf_limit (pm_var 0)))) psm_nil)
      (psm_cons (psm_if (ptm_cmp (om_eq (hu64 hr)) (pm_xfld T.xf_code (pm_var 0)) pm_str) (psm_one (psm_ret (pm_xfld T.xf_user (pm_var 0)))) psm_nil)
      (psm_cons (psm_if (ptm_cmp (om_eq (hu64 hr)) (pm_xfld T.xf_code (pm_var 0)) pm_str) (psm_one (psm_ret (pm_tup (pam_cons (pm_xfld T.xf_fact_name (pm_var 0)) (pam_cons (pm_xfld T.xf_sheet_name (pm_var 0)) pam_nil))))) psm_nil)
      (psm_one (psm_ret (pm_ifExp (ptm_cmp (om_in (hu65 hr)) (pm_xfld T.xf_code (pm_var 0)) (pm_tup (pam_cons pm_str (pam_cons pm_str (pam_cons pm_str pam_nil))))) pm_non (pm_xfld T.xf_value (pm_var 0)))))))))))
theorem sc__law_made_errors : FnScope ["_law_a", "_law_b", "_law_first", "_law_more"] ["_law_a", "_law_b"] (defScope s__law_made_errors) := ⟨rfl, rfl, rfl, by decide +kernel, rfl, by decide +kernel, by decide +kernel⟩
theorem ok__law_made_errors (T : Txt w K mg) (hP : REX.PrgOk P "/claim/cut.py") : FnE P w K mg base 1 "_law_made_errors" s__law_made_errors ["_law_a", "_law_b"] G__law_made_errors := fn_e T.f__law_made_errors sc__law_made_errors fun f cdv A outer s H E hr tk => by
    exact (psm_cons (psm_set 2 (pm_lst (pam_cons (pm_makeX T.x_InvalidName hP T.z_super hr (pam_cons (pm_var 0) pam_nil)) (pam_cons (pm_makeX T.x_InvalidTerm hP T.z_super hr (pam_cons (pm_var 0) pam_nil)) (pam_cons (pm_makeX T.x_InvalidStatement hP T.z_super hr (pam_cons (pm_var 0) pam_nil)) (pam_cons (pm_makeX T.x_InvalidNumber hP T.z_super hr (pam_cons (pm_var 0) pam_nil)) (pam_cons (pm_makeX T.x_InvalidLabel hP T.z_super hr (pam_cons (pm_var 0) pam_nil)) (pam_cons (pm_makeX T.x_InvalidKind hP T.z_super hr (pam_cons (pm_var 0) pam_nil)) (pam_cons (pm_makeX T.x_DuplicateName hP T.z_super hr (pam_cons (pm_var 0) pam_nil)) (pam_cons (pm_makeX T.x_UnknownName hP T.z_super hr (pam_cons (pm_var 0) pam_nil)) (pam_cons (pm_makeX T.x_UnknownCell hP T.z_super hr (pam_cons (pm_var 0) pam_nil)) pam_nil)))))))))) sc__law_made_errors.nd)
      (psm_cons (psm_set 3 (pm_lst (pam_cons (pm_makeX T.x_InvalidStep hP T.z_super hr (pam_cons (pm_var 0) pam_nil)) (pam_cons (pm_makeX T.x_InvalidText hP T.z_super hr (pam_cons (pm_var 0) pam_nil)) (pam_cons (pm_makeX T.x_InvalidCommand hP T.z_super hr (pam_cons (pm_var 0) pam_nil)) (pam_cons (pm_makeX T.x_InvalidPage hP T.z_super hr (pam_cons (pm_var 0) pam_nil)) (pam_cons (pm_makeX T.x_TooDeep hP T.z_super hr (pam_cons (pm_var 0) pam_nil)) (pam_cons (pm_makeX T.x_TooMany hP T.z_super hr (pam_cons (pm_var 0) pam_nil)) (pam_cons (pm_makeX T.x_InUse hP T.z_super hr (pam_cons (pm_var 0) pam_nil)) (pam_cons (pm_makeX T.x_Breaks hP T.z_super hr (pam_cons (pm_var 0) (pam_cons (pm_var 1) pam_nil))) (pam_cons (pm_makeX0 T.x_Unlike hP T.z_super hr) (pam_cons (pm_makeX0 T.x_Apart hP T.z_super hr) (pam_cons (pm_makeX0 T.x_NothingLeft hP T.z_super hr) pam_nil)))))))))))) sc__law_made_errors.nd)
      (psm_one (psm_ret (pm_bin om_add (pm_var 2) (pm_var 3))))))
theorem sc__law_named_errors : FnScope ["_law_a", "_law_b", "_law_first", "_law_more"] ["_law_a", "_law_b"] (defScope s__law_named_errors) := ⟨rfl, rfl, rfl, by decide +kernel, rfl, by decide +kernel, by decide +kernel⟩
theorem ok__law_named_errors (T : Txt w K mg) (hP : REX.PrgOk P "/claim/cut.py") : FnE P w K mg base 1 "_law_named_errors" s__law_named_errors ["_law_a", "_law_b"] G__law_named_errors := fn_e T.f__law_named_errors sc__law_named_errors fun f cdv A outer s H E hr tk => by
    exact (psm_cons (psm_set 2 (pm_lst (pam_cons (pm_makeXK [0] ["value"] T.x_InvalidName hP T.z_super hr (pkm_cons (pm_var 0) pkm_nil) (fun _ _ ws _ _ _ _ _ _ _ hw => match ws, hw with | [_], _ => rfl)) (pam_cons (pm_makeXK [0] ["value"] T.x_InvalidTerm hP T.z_super hr (pkm_cons (pm_var 0) pkm_nil) (fun _ _ ws _ _ _ _ _ _ _ hw => match ws, hw with | [_], _ => rfl)) (pam_cons (pm_makeXK [0] ["value"] T.x_InvalidStatement hP T.z_super hr (pkm_cons (pm_var 0) pkm_nil) (fun _ _ ws _ _ _ _ _ _ _ hw => match ws, hw with | [_], _ => rfl)) (pam_cons (pm_makeXK [0] ["value"] T.x_InvalidNumber hP T.z_super hr (pkm_cons (pm_var 0) pkm_nil) (fun _ _ ws _ _ _ _ _ _ _ hw => match ws, hw with | [_], _ => rfl)) (pam_cons (pm_makeXK [0] ["value"] T.x_InvalidLabel hP T.z_super hr (pkm_cons (pm_var 0) pkm_nil) (fun _ _ ws _ _ _ _ _ _ _ hw => match ws, hw with | [_], _ => rfl)) (pam_cons (pm_makeXK [0] ["value"] T.x_InvalidKind hP T.z_super hr (pkm_cons (pm_var 0) pkm_nil) (fun _ _ ws _ _ _ _ _ _ _ hw => match ws, hw with | [_], _ => rfl)) pam_nil))))))) sc__law_named_errors.nd)
      (psm_cons (psm_set 2 (pm_bin om_add (pm_var 2) (pm_lst (pam_cons (pm_makeXK [0] ["value"] T.x_DuplicateName hP T.z_super hr (pkm_cons (pm_var 0) pkm_nil) (fun _ _ ws _ _ _ _ _ _ _ hw => match ws, hw with | [_], _ => rfl)) (pam_cons (pm_makeXK [0] ["value"] T.x_UnknownName hP T.z_super hr (pkm_cons (pm_var 0) pkm_nil) (fun _ _ ws _ _ _ _ _ _ _ hw => match ws, hw with | [_], _ => rfl)) (pam_cons (pm_makeXK [0] ["value"] T.x_UnknownCell hP T.z_super hr (pkm_cons (pm_var 0) pkm_nil) (fun _ _ ws _ _ _ _ _ _ _ hw => match ws, hw with | [_], _ => rfl)) pam_nil))))) sc__law_named_errors.nd)
      (psm_cons (psm_set 3 (pm_lst (pam_cons (pm_makeXK [0] ["path"] T.x_InvalidStep hP T.z_super hr (pkm_cons (pm_var 0) pkm_nil) (fun _ _ ws _ _ _ _ _ _ _ hw => match ws, hw with | [_], _ => rfl)) (pam_cons (pm_makeXK [0] ["line"] T.x_InvalidText hP T.z_super hr (pkm_cons (pm_var 0) pkm_nil) (fun _ _ ws _ _ _ _ _ _ _ hw => match ws, hw with | [_], _ => rfl)) (pam_cons (pm_makeXK [0] ["word"] T.x_InvalidCommand hP T.z_super hr (pkm_cons (pm_var 0) pkm_nil) (fun _ _ ws _ _ _ _ _ _ _ hw => match ws, hw with | [_], _ => rfl)) (pam_cons (pm_makeXK [0] ["line"] T.x_InvalidPage hP T.z_super hr (pkm_cons (pm_var 0) pkm_nil) (fun _ _ ws _ _ _ _ _ _ _ hw => match ws, hw with | [_], _ => rfl)) (pam_cons (pm_makeXK [0] ["limit"] T.x_TooDeep hP T.z_super hr (pkm_cons (pm_var 0) pkm_nil) (fun _ _ ws _ _ _ _ _ _ _ hw => match ws, hw with | [_], _ => rfl)) (pam_cons (pm_makeXK [0] ["limit"] T.x_TooMany hP T.z_super hr (pkm_cons (pm_var 0) pkm_nil) (fun _ _ ws _ _ _ _ _ _ _ hw => match ws, hw with | [_], _ => rfl)) (pam_cons (pm_makeXK [0] ["user"] T.x_InUse hP T.z_super hr (pkm_cons (pm_var 0) pkm_nil) (fun _ _ ws _ _ _ _ _ _ _ hw => match ws, hw with | [_], _ => rfl)) pam_nil)))))))) sc__law_named_errors.nd)
      (psm_one (psm_ret (pm_bin om_add (pm_bin om_add (pm_var 2) (pm_var 3)) (pm_lst (pam_cons (pm_makeXK [1, 0] ["sheet_name", "fact_name"] T.x_Breaks hP T.z_super hr (pkm_cons (pm_var 1) (pkm_cons (pm_var 0) pkm_nil)) (fun _ _ ws _ _ _ _ _ _ _ hw => match ws, hw with | [_, _], _ => rfl)) (pam_cons (pm_makeX0 T.x_Unlike hP T.z_super hr) (pam_cons (pm_makeX0 T.x_Apart hP T.z_super hr) (pam_cons (pm_makeX0 T.x_NothingLeft hP T.z_super hr) pam_nil)))))))))))
theorem sc_law : FnScope ["_law_script", "_law_bag", "_law_codes", "_law_made", "_law_a", "_law_b", "_law_below", "_law_due", "_law_kinds", "_law_k", "_law_e", "_law_code"] ["_law_script"] (defScope s_law) := ⟨rfl, rfl, rfl, by decide +kernel, rfl, by decide +kernel, by decide +kernel⟩
theorem ok_law (T : Txt w K mg) (hP : REX.PrgOk P "/claim/cut.py") (h__law_cells : FnE P w K mg base 1 "_law_cells" s__law_cells ["_law_script"] G__law_cells) (h__law_one : FnE P w K mg base 2 "_law_one" s__law_one ["_law_bag", "_law_things"] G__law_one) (h__law_same : FnE P w K mg base 10 "_law_same" s__law_same ["_law_found", "_law_due"] (G__law_same 10)) (h__law_extra : FnE P w K mg base 1 "_law_extra" s__law_extra ["_law_e"] G__law_extra) (h__law_made_errors : FnE P w K mg base 1 "_law_made_errors" s__law_made_errors ["_law_a", "_law_b"] G__law_made_errors) (h__law_named_errors : FnE P w K mg base 1 "_law_named_errors" s__law_named_errors ["_law_a", "_law_b"] G__law_named_errors) : FnE P w K mg base 11 "law" s_law ["_law_script"] G_law := fn_e T.f_law sc_law fun f cdv A outer s H E hr tk => by
    exact (psm_cons (psm_set 1 (pm_callE h__law_cells hr (by decide) tk (pam_cons (pm_var 0) pam_nil)) sc_law.nd)
      (psm_cons (psm_asg (vs := [4, 5]) (pm_lc (own := [("_law_k", 9)]) rfl sc_law.nd (pim_range1 T.z_range (pam_cons pm_int pam_nil)) (show blkC ["_law_script", "_law_bag", "_law_codes", "_law_made", "_law_a", "_law_b", "_law_below", "_law_due", "_law_kinds", "_law_k", "_law_e", "_law_code"] (defScope s_law) _ [("_law_k", 9)] = true by decide +kernel) ⟨fun _ _ _ _ _ => (pgm_name 9 sc_law.nd), fun _ _ _ _ _ => ptsm_nil, fun _ _ _ _ _ => (pm_callE h__law_one hr (by decide) takesE0 (pam_cons (pm_var 1) (pam_cons (pm_lst (pam_cons pm_non (pam_cons pm_int (pam_cons (pm_bin om_sub pm_int pm_int) (pam_cons pm_str (pam_cons (pm_tup (pam_cons pm_int (pam_cons pm_int pam_nil))) (pam_cons pm_bl (pam_cons (pm_bin om_pow pm_int pm_int) (pam_cons pm_str (pam_cons (pm_tup (pam_cons pm_str pam_nil)) pam_nil)))))))))) pam_nil)))⟩) (pgm_lst (n := 2) rfl (pgm_cons (pgm_name 4 sc_law.nd) (pgm_cons (pgm_name 5 sc_law.nd) pgm_nil))))
      (psm_cons (psm_set 2 (pm_lst (pam_cons pm_str (pam_cons pm_str (pam_cons pm_str (pam_cons pm_str (pam_cons pm_str (pam_cons pm_str (pam_cons pm_str (pam_cons pm_str (pam_cons pm_str (pam_cons pm_str (pam_cons pm_str (pam_cons pm_str (pam_cons pm_str (pam_cons pm_str (pam_cons pm_str (pam_cons pm_str (pam_cons pm_str (pam_cons pm_str (pam_cons pm_str (pam_cons pm_str pam_nil))))))))))))))))))))) sc_law.nd)
      (psm_cons (psm_for (vs := [3]) (passes_of rfl) rfl (pim_any (pm_lst (pam_cons (pm_callE h__law_made_errors hr (by decide) tk (pam_cons (pm_var 4) (pam_cons (pm_var 5) pam_nil))) (pam_cons (pm_callE h__law_named_errors hr (by decide) tk (pam_cons (pm_var 4) (pam_cons (pm_var 5) pam_nil))) pam_nil)))) (pgm_name 3 sc_law.nd) (psm_cons (psm_if (ptm_not (ptm_tru (pm_callE h__law_same hr (by decide) tk (pam_cons (pm_lc (own := [("_law_e", 10)]) rfl sc_law.nd (pim_any (pm_var 3)) (show blkC ["_law_script", "_law_bag", "_law_codes", "_law_made", "_law_a", "_law_b", "_law_below", "_law_due", "_law_kinds", "_law_k", "_law_e", "_law_code"] (defScope s_law) _ [("_law_e", 10)] = true by decide +kernel) ⟨fun _ _ _ _ _ => (pgm_name 10 sc_law.nd), fun _ _ _ _ _ => ptsm_nil, fun _ _ _ _ _ => (pm_tup (pam_cons (pm_xfld T.xf_code (pm_var 10)) (pam_cons (pm_callE h__law_extra hr (by decide) takesE0 (pam_cons (pm_var 10) pam_nil)) pam_nil)))⟩) (pam_cons (pm_bin om_add (pm_lc (own := [("_law_code", 11)]) rfl sc_law.nd (pim_any (pm_slice (pm_var 2) pom_none (pom_some pm_int))) (show blkC ["_law_script", "_law_bag", "_law_codes", "_law_made", "_law_a", "_law_b", "_law_below", "_law_due", "_law_kinds", "_law_k", "_law_e", "_law_code"] (defScope s_law) _ [("_law_code", 11)] = true by decide +kernel) ⟨fun _ _ _ _ _ => (pgm_name 11 sc_law.nd), fun _ _ _ _ _ => ptsm_nil, fun _ _ _ _ _ => (pm_tup (pam_cons (pm_var 11) (pam_cons (pm_var 4) pam_nil)))⟩) (pm_lst (pam_cons (pm_tup (pam_cons pm_str (pam_cons (pm_tup (pam_cons (pm_var 4) (pam_cons (pm_var 5) pam_nil))) pam_nil))) (pam_cons (pm_tup (pam_cons pm_str (pam_cons pm_non pam_nil))) (pam_cons (pm_tup (pam_cons pm_str (pam_cons pm_non pam_nil))) (pam_cons (pm_tup (pam_cons pm_str (pam_cons pm_non pam_nil))) pam_nil)))))) pam_nil))))) (psm_one (psm_ret pm_bl)) psm_nil)
      (psm_cons (psm_setLc (own := [("_law_e", 10)]) 6 rfl sc_law.nd (pim_any (pm_var 3)) (show blkC ["_law_script", "_law_bag", "_law_codes", "_law_made", "_law_a", "_law_b", "_law_below", "_law_due", "_law_kinds", "_law_k", "_law_e", "_law_code"] (defScope s_law) _ [("_law_e", 10)] = true by decide +kernel) ⟨fun _ _ _ _ _ => (pgm_name 10 sc_law.nd), fun _ _ _ _ _ => ptsm_nil, fun _ _ _ _ _ => (pm_tup (pam_cons (pm_callB (cm_isiX T.ig T.it) T.z_isinstance (pam_cons (pm_var 10) (pam_cons (pm_glob T.k_MapError) pam_nil))) (pam_cons (pm_callB (cm_isiX T.ig T.it) T.z_isinstance (pam_cons (pm_var 10) (pam_cons (pm_ty (n := "ValueError") T.z_ValueError) pam_nil))) (pam_cons (pm_callB (cm_isiX T.ig T.it) T.z_isinstance (pam_cons (pm_var 10) (pam_cons (pm_glob T.k_Missing) pam_nil))) (pam_cons (pm_callB (cm_isiX T.ig T.it) T.z_isinstance (pam_cons (pm_var 10) (pam_cons (pm_ty (n := "LookupError") T.z_LookupError) pam_nil))) (pam_cons (pm_callB (cm_isiX T.ig T.it) T.z_isinstance (pam_cons (pm_var 10) (pam_cons (pm_ty (n := "IndexError") T.z_IndexError) pam_nil))) pam_nil))))))⟩)
      (psm_cons (psm_setLc (own := [("_law_code", 11)]) 7 rfl sc_law.nd (pim_any (pm_var 2)) (show blkC ["_law_script", "_law_bag", "_law_codes", "_law_made", "_law_a", "_law_b", "_law_below", "_law_due", "_law_kinds", "_law_k", "_law_e", "_law_code"] (defScope s_law) _ [("_law_code", 11)] = true by decide +kernel) ⟨fun _ _ _ _ _ => (pgm_name 11 sc_law.nd), fun _ _ _ _ _ => ptsm_nil, fun _ _ _ _ _ => (pm_ifExp (ptm_cmp (om_notIn (hu65 hr)) (pm_var 11) (pm_tup (pam_cons pm_str (pam_cons pm_str (pam_cons pm_str pam_nil))))) (pm_tup (pam_cons pm_bl (pam_cons pm_bl (pam_cons pm_bl (pam_cons pm_bl (pam_cons pm_bl pam_nil)))))) (pm_tup (pam_cons pm_bl (pam_cons pm_bl (pam_cons (pm_cmp (om_ne (hu64 hr)) (pm_var 11) pm_str) (pam_cons pm_bl (pam_cons (pm_cmp (om_eq (hu64 hr)) (pm_var 11) pm_str) pam_nil)))))))⟩)
      (psm_cons (psm_if (ptm_not (ptm_tru (pm_callE h__law_same hr (by decide) tk (pam_cons (pm_var 6) (pam_cons (pm_var 7) pam_nil))))) (psm_one (psm_ret pm_bl)) psm_nil)
      (psm_cons (psm_set 8 (pm_bin om_add (pm_bin om_add (pm_lc (own := [("_law_e", 10)]) rfl sc_law.nd (pim_any (pm_var 3)) (show blkC ["_law_script", "_law_bag", "_law_codes", "_law_made", "_law_a", "_law_b", "_law_below", "_law_due", "_law_kinds", "_law_k", "_law_e", "_law_code"] (defScope s_law) _ [("_law_e", 10)] = true by decide +kernel) ⟨fun _ _ _ _ _ => (pgm_name 10 sc_law.nd), fun _ _ _ _ _ => ptsm_nil, fun _ _ _ _ _ => (pm_callB (cm_isiX T.ig T.it) T.z_isinstance (pam_cons (pm_var 10) (pam_cons (pm_glob T.k_InvalidName) pam_nil)))⟩) (pm_lc (own := [("_law_e", 10)]) rfl sc_law.nd (pim_any (pm_var 3)) (show blkC ["_law_script", "_law_bag", "_law_codes", "_law_made", "_law_a", "_law_b", "_law_below", "_law_due", "_law_kinds", "_law_k", "_law_e", "_law_code"] (defScope s_law) _ [("_law_e", 10)] = true by decide +kernel) ⟨fun _ _ _ _ _ => (pgm_name 10 sc_law.nd), fun _ _ _ _ _ => ptsm_nil, fun _ _ _ _ _ => (pm_callB (cm_isiX T.ig T.it) T.z_isinstance (pam_cons (pm_var 10) (pam_cons (pm_glob T.k_InvalidTerm) pam_nil)))⟩)) (pm_lc (own := [("_law_e", 10)]) rfl sc_law.nd (pim_any (pm_var 3)) (show blkC ["_law_script", "_law_bag", "_law_codes", "_law_made", "_law_a", "_law_b", "_law_below", "_law_due", "_law_kinds", "_law_k", "_law_e", "_law_code"] (defScope s_law) _ [("_law_e", 10)] = true by decide +kernel) ⟨fun _ _ _ _ _ => (pgm_name 10 sc_law.nd), fun _ _ _ _ _ => ptsm_nil, fun _ _ _ _ _ => (pm_callB (cm_isiX T.ig T.it) T.z_isinstance (pam_cons (pm_var 10) (pam_cons (pm_glob T.k_UnknownName) pam_nil)))⟩)) sc_law.nd)
      (psm_one (psm_if (ptm_cmp (om_ne (hu64 hr)) (pm_var 8) (pm_bin om_add (pm_bin om_add (pm_lc (own := [("_law_k", 9)]) rfl sc_law.nd (pim_range1 T.z_range (pam_cons pm_int pam_nil)) (show blkC ["_law_script", "_law_bag", "_law_codes", "_law_made", "_law_a", "_law_b", "_law_below", "_law_due", "_law_kinds", "_law_k", "_law_e", "_law_code"] (defScope s_law) _ [("_law_k", 9)] = true by decide +kernel) ⟨fun _ _ _ _ _ => (pgm_name 9 sc_law.nd), fun _ _ _ _ _ => ptsm_nil, fun _ _ _ _ _ => (pm_cmp (om_eq (hu64 hr)) (pm_var 9) pm_int)⟩) (pm_lc (own := [("_law_k", 9)]) rfl sc_law.nd (pim_range1 T.z_range (pam_cons pm_int pam_nil)) (show blkC ["_law_script", "_law_bag", "_law_codes", "_law_made", "_law_a", "_law_b", "_law_below", "_law_due", "_law_kinds", "_law_k", "_law_e", "_law_code"] (defScope s_law) _ [("_law_k", 9)] = true by decide +kernel) ⟨fun _ _ _ _ _ => (pgm_name 9 sc_law.nd), fun _ _ _ _ _ => ptsm_nil, fun _ _ _ _ _ => (pm_cmp (om_eq (hu64 hr)) (pm_var 9) pm_int)⟩)) (pm_lc (own := [("_law_k", 9)]) rfl sc_law.nd (pim_range1 T.z_range (pam_cons pm_int pam_nil)) (show blkC ["_law_script", "_law_bag", "_law_codes", "_law_made", "_law_a", "_law_b", "_law_below", "_law_due", "_law_kinds", "_law_k", "_law_e", "_law_code"] (defScope s_law) _ [("_law_k", 9)] = true by decide +kernel) ⟨fun _ _ _ _ _ => (pgm_name 9 sc_law.nd), fun _ _ _ _ _ => ptsm_nil, fun _ _ _ _ _ => (pm_cmp (om_eq (hu64 hr)) (pm_var 9) pm_int)⟩))) (psm_one (psm_ret pm_bl)) psm_nil))))))))
      (psm_one (psm_ret pm_bl))))))
theorem all_ok (T : Txt w K mg) (hP : REX.PrgOk P "/claim/cut.py") : FnE P w K mg base 11 "law" s_law ["_law_script"] G_law := by
  have h__law_cells := ok__law_cells (P := P) (w := w) (base := base) T hP
  have h__law_draw := ok__law_draw (P := P) (w := w) (base := base) T hP
  have h__law_one := ok__law_one (P := P) (w := w) (base := base) T hP h__law_draw
  have h__law_same := ok__law_same (P := P) (w := w) (base := base) T hP 10
  have h__law_extra := ok__law_extra (P := P) (w := w) (base := base) T hP
  have h__law_made_errors := ok__law_made_errors (P := P) (w := w) (base := base) T hP
  have h__law_named_errors := ok__law_named_errors (P := P) (w := w) (base := base) T hP
  have h_law := ok_law (P := P) (w := w) (base := base) T hP h__law_cells h__law_one h__law_same h__law_extra h__law_made_errors h__law_named_errors
  exact h_law
end
end Dk01
end

section
set_option maxRecDepth 100000
set_option maxHeartbeats 4000000
namespace Dk01
open PySem PySem.Spec L2 RL LC
open PyProof.Rows hiding St
def ex1 (c f : Str) (v : W) : W := .exn c [f, "code"] [v, .str c]
def errs (a b : W) : List W := [ex1 "InvalidName" "value" a, ex1 "InvalidTerm" "value" a, ex1 "InvalidStatement" "value" a, ex1 "InvalidNumber" "value" a, ex1 "InvalidLabel" "value" a, ex1 "InvalidKind" "value" a,
  ex1 "DuplicateName" "value" a, ex1 "UnknownName" "value" a, ex1 "UnknownCell" "value" a, ex1 "InvalidStep" "path" a, ex1 "InvalidText" "line" a, ex1 "InvalidCommand" "word" a, ex1 "InvalidPage" "line" a,
  ex1 "TooDeep" "limit" a, ex1 "TooMany" "limit" a, ex1 "InUse" "user" a, .exn "Breaks" ["sheet_name", "fact_name", "code"] [b, a, .str "Breaks"], .exn "Unlike" ["code"] [.str "Unlike"], .exn "Apart" ["code"] [.str "Apart"], .exn "NothingLeft" ["code"] [.str "NothingLeft"]]
theorem mk1 {a : W} {S : Store} : gMakeX "InvalidName" p_InvalidName l_InvalidName [a] S = .ok (ex1 "InvalidName" "value" a) S := rfl
theorem made_ok {a b : W} {S : Store} : G__law_made_errors [a, b] S = .ok (.lst (errs a b)) S := by
  rfl
theorem named_ok {a b : W} {S : Store} : G__law_named_errors [a, b] S = .ok (.lst (errs a b)) S := by
  rfl
def codesL : List Str := ["InvalidName", "InvalidTerm", "InvalidStatement", "InvalidNumber", "InvalidLabel", "InvalidKind", "DuplicateName", "UnknownName", "UnknownCell", "InvalidStep", "InvalidText", "InvalidCommand", "InvalidPage", "TooDeep", "TooMany", "InUse", "Breaks", "Unlike", "Apart", "NothingLeft"]
def dueL (a b : W) : List W := ((codesL.take 16).map fun c => .tup [.str c, a]) ++ [.tup [.str "Breaks", .tup [a, b]], .tup [.str "Unlike", .non], .tup [.str "Apart", .non], .tup [.str "NothingLeft", .non]]
section
variable {o0 o1 o6 o7 o8 o9 : Option W} {a b : W} {S : Store}
def env (o0 o1 : Option W) (a b : W) (o3 o6 o7 o8 o9 : Option W) : Env' := [o0, o1, some (.lst (codesL.map W.str)), o3, some a, some b, o6, o7, o8, o9, none, none]
theorem extra_ok : mLc (mItems (mVar 3)) [10] (gNm 10) mYes (mAp gTup (mCons (mUn (gXFld cs_code "code") (mVar 10)) (mCons (mAp G__law_extra (mCons (mVar 10) mNil)) mNil))) (env o0 o1 a b (some (.lst (errs a b))) o6 o7 o8 o9) S = .ok (.lst (dueL a b)) S := by
  kernel_rfl
end
def xB1 : SM W := (mLc (mItems (mVar 3)) [10] (gNm 10) mYes (mAp gTup (mCons (mUn (gXFld cs_code "code") (mVar 10)) (mCons (mAp G__law_extra (mCons (mVar 10) mNil)) mNil))))
def xB2 : SM W := (mBin gAdd (mLc (mItems (mSl (mVar 2) mNoPart (mPart (mC (.int 16))))) [11] (gNm 11) mYes (mAp gTup (mCons (mVar 11) (mCons (mVar 4) mNil)))) (mAp gLst (mCons (mAp gTup (mCons (mC (.str "Breaks")) (mCons (mAp gTup (mCons (mVar 4) (mCons (mVar 5) mNil))) mNil))) (mCons (mAp gTup (mCons (mC (.str "Unlike")) (mCons (mC .non) mNil))) (mCons (mAp gTup (mCons (mC (.str "Apart")) (mCons (mC .non) mNil))) (mCons (mAp gTup (mCons (mC (.str "NothingLeft")) (mCons (mC .non) mNil))) mNil))))))
def pB2 : SS := (mAsg (mLc (mItems (mVar 3)) [10] (gNm 10) mYes (mAp gTup (mCons (mAp (gIsiX c_tg c_tt) (mCons (mVar 10) (mCons (mC (.gl "MapError")) mNil))) (mCons (mAp (gIsiX c_tg c_tt) (mCons (mVar 10) (mCons (mC (.ty "ValueError")) mNil))) (mCons (mAp (gIsiX c_tg c_tt) (mCons (mVar 10) (mCons (mC (.gl "Missing")) mNil))) (mCons (mAp (gIsiX c_tg c_tt) (mCons (mVar 10) (mCons (mC (.ty "LookupError")) mNil))) (mCons (mAp (gIsiX c_tg c_tt) (mCons (mVar 10) (mCons (mC (.ty "IndexError")) mNil))) mNil))))))) (gNm 6))
def pB3 : SS := (mAsg (mLc (mItems (mVar 2)) [11] (gNm 11) mYes (mIfE (mBT (gIn true) (mVar 11) (mAp gTup (mCons (mC (.str "UnknownName")) (mCons (mC (.str "UnknownCell")) (mCons (mC (.str "NothingLeft")) mNil))))) (mAp gTup (mCons (mC (.bl true)) (mCons (mC (.bl true)) (mCons (mC (.bl false)) (mCons (mC (.bl false)) (mCons (mC (.bl false)) mNil)))))) (mAp gTup (mCons (mC (.bl false)) (mCons (mC (.bl false)) (mCons (mBin (gEq true) (mVar 11) (mC (.str "NothingLeft"))) (mCons (mC (.bl true)) (mCons (mBin (gEq false) (mVar 11) (mC (.str "NothingLeft"))) mNil)))))))) (gNm 7))
def pB4 : SS := (mIf (mNotT (mTru (mAp (G__law_same 10) (mCons (mVar 6) (mCons (mVar 7) mNil))))) (mRet (mC (.bl false))) mSkip)
def pB5 : SS := (mAsg (mBin gAdd (mBin gAdd (mLc (mItems (mVar 3)) [10] (gNm 10) mYes (mAp (gIsiX c_tg c_tt) (mCons (mVar 10) (mCons (mC (.gl "InvalidName")) mNil)))) (mLc (mItems (mVar 3)) [10] (gNm 10) mYes (mAp (gIsiX c_tg c_tt) (mCons (mVar 10) (mCons (mC (.gl "InvalidTerm")) mNil))))) (mLc (mItems (mVar 3)) [10] (gNm 10) mYes (mAp (gIsiX c_tg c_tt) (mCons (mVar 10) (mCons (mC (.gl "UnknownName")) mNil))))) (gNm 8))
def pB6 : SS := (mIf (mBT (gEq true) (mVar 8) (mBin gAdd (mBin gAdd (mLc (mRange1 (mCons (mC (.int 20)) mNil)) [9] (gNm 9) mYes (mBin (gEq false) (mVar 9) (mC (.int 0)))) (mLc (mRange1 (mCons (mC (.int 20)) mNil)) [9] (gNm 9) mYes (mBin (gEq false) (mVar 9) (mC (.int 1))))) (mLc (mRange1 (mCons (mC (.int 20)) mNil)) [9] (gNm 9) mYes (mBin (gEq false) (mVar 9) (mC (.int 7)))))) (mRet (mC (.bl false))) mSkip)
def loopB : SS := mSeq (mIf (mNotT (mTru (mAp (G__law_same 10) (mCons xB1 (mCons xB2 mNil))))) (mRet (mC (.bl false))) mSkip) (mSeq pB2 (mSeq pB3 (mSeq pB4 (mSeq pB5 pB6))))
def nineM : SM (List W) := (mCons (mVar 1) (mCons (mAp gLst (mCons (mC .non) (mCons (mC (.int 0)) (mCons (mBin gSub (mC (.int 0)) (mC (.int 5))) (mCons (mC (.str "x")) (mCons (mAp gTup (mCons (mC (.int 1)) (mCons (mC (.int 2)) mNil))) (mCons (mC (.bl true)) (mCons (mBin gPow (mC (.int 10)) (mC (.int 25))) (mCons (mC (.str "")) (mCons (mAp gTup (mCons (mC (.str "a")) mNil)) mNil)))))))))) mNil))
def d1 : SS := (mAsg (mAp G__law_cells (mCons (mVar 0) mNil)) (gNm 1))
def d2 : SS := (mAsg (mLc (mRange1 (mCons (mC (.int 2)) mNil)) [9] (gNm 9) mYes (mAp G__law_one nineM)) (gLs 2 (gCons (gNm 4) (gCons (gNm 5) gNil))))
def d3 : SS := (mAsg (mAp gLst (mCons (mC (.str "InvalidName")) (mCons (mC (.str "InvalidTerm")) (mCons (mC (.str "InvalidStatement")) (mCons (mC (.str "InvalidNumber")) (mCons (mC (.str "InvalidLabel")) (mCons (mC (.str "InvalidKind")) (mCons (mC (.str "DuplicateName")) (mCons (mC (.str "UnknownName")) (mCons (mC (.str "UnknownCell")) (mCons (mC (.str "InvalidStep")) (mCons (mC (.str "InvalidText")) (mCons (mC (.str "InvalidCommand")) (mCons (mC (.str "InvalidPage")) (mCons (mC (.str "TooDeep")) (mCons (mC (.str "TooMany")) (mCons (mC (.str "InUse")) (mCons (mC (.str "Breaks")) (mCons (mC (.str "Unlike")) (mCons (mC (.str "Apart")) (mCons (mC (.str "NothingLeft")) mNil))))))))))))))))))))) (gNm 2))
def lsM : SM ItW := (mItems (mAp gLst (mCons (mAp G__law_made_errors (mCons (mVar 4) (mCons (mVar 5) mNil))) (mCons (mAp G__law_named_errors (mCons (mVar 4) (mCons (mVar 5) mNil))) mNil))))
theorem sh_law_eq : sh_law = mSeq d1 (mSeq d2 (mSeq d3 (mSeq (mFor lsM (gNm 3) loopB) (mRet (mC (.bl true)))))) := rfl

def nineL : List W := [.non, .int 0, .int (-5), .str "x", .tup [.int 1, .int 2], .bl true, .int (10 ^ 25), .str "", .tup [.str "a"]]
section
variable {o0 o1 o3 o6 o7 o8 o9 : Option W} {a b : W} {S : Store}
theorem b1_ok : xB1 (env o0 o1 a b (some (.lst (errs a b))) o6 o7 o8 o9) S = .ok (.lst (dueL a b)) S := by kernel_rfl
theorem b2_ok : xB2 (env o0 o1 a b (some (.lst (errs a b))) o6 o7 o8 o9) S = .ok (.lst (dueL a b)) S := by kernel_rfl
def belowL : List W := codesL.map fun c => if c ∈ (["UnknownName", "UnknownCell", "NothingLeft"] : List Str) then .tup [.bl false, .bl false, .bl (decide (c ≠ "NothingLeft")), .bl true, .bl (decide (c = "NothingLeft"))] else .tup [.bl true, .bl true, .bl false, .bl false, .bl false]
theorem p2_ok : pB2 (env o0 o1 a b (some (.lst (errs a b))) o6 o7 o8 o9) S = .ok (.nx, env o0 o1 a b (some (.lst (errs a b))) (some (.lst belowL)) o7 o8 o9) S := by kernel_rfl
theorem p3_ok : pB3 (env o0 o1 a b (some (.lst (errs a b))) o6 o7 o8 o9) S = .ok (.nx, env o0 o1 a b (some (.lst (errs a b))) o6 (some (.lst belowL)) o8 o9) S := by kernel_rfl
theorem p4_ok : pB4 (env o0 o1 a b (some (.lst (errs a b))) (some (.lst belowL)) (some (.lst belowL)) o8 o9) S = .ok (.nx, env o0 o1 a b (some (.lst (errs a b))) (some (.lst belowL)) (some (.lst belowL)) o8 o9) S := by kernel_rfl
def kindsL : List W := ((List.range 20).map fun k => .bl (decide (k = 0))) ++ ((List.range 20).map fun k => .bl (decide (k = 1))) ++ ((List.range 20).map fun k => .bl (decide (k = 7)))
theorem p5_ok : pB5 (env o0 o1 a b (some (.lst (errs a b))) o6 o7 o8 o9) S = .ok (.nx, env o0 o1 a b (some (.lst (errs a b))) o6 o7 (some (.lst kindsL)) o9) S := by kernel_rfl
theorem p6_ok : pB6 (env o0 o1 a b (some (.lst (errs a b))) o6 o7 (some (.lst kindsL)) o9) S = .ok (.nx, env o0 o1 a b (some (.lst (errs a b))) o6 o7 (some (.lst kindsL)) o9) S := by kernel_rfl
theorem nine_ok {w : W} {e : Env'} : nineM (o0 :: some w :: e) S = .ok [w, .lst nineL] S := by kernel_rfl
theorem due_plain : ∀ a ∈ nineL, ∀ b ∈ nineL, plainW 10 (.lst (dueL a b)) = true := by decide +kernel
theorem below_plain : plainW 10 (.lst belowL) = true := by decide +kernel
theorem loop_ok (ha : a ∈ nineL) (hb : b ∈ nineL) : loopB (env o0 o1 a b (some (.lst (errs a b))) o6 o7 o8 o9) S = .ok (.nx, env o0 o1 a b (some (.lst (errs a b))) (some (.lst belowL)) (some (.lst belowL)) (some (.lst kindsL)) o9) S := by
  have h4 : ∀ o8 : Option W, pB4 (env o0 o1 a b (some (.lst (errs a b))) (some (.lst belowL)) (some (.lst belowL)) o8 o9) S = .ok (.nx, env o0 o1 a b (some (.lst (errs a b))) (some (.lst belowL)) (some (.lst belowL)) o8 o9) S := fun o8 => p4_ok
  simp only [loopB, mSeq_eq, mIf_eq, mNotT_eq, mTru_eq, mAp_eq, mCons_eq, mNil_eq, b1_ok, b2_ok, ok_bind, same_self 10 _ (due_plain a ha b hb), truW, Bool.not_true, if_neg Bool.false_ne_true, mSkip_eq, seqK_nx, p2_ok, p3_ok, h4, p5_ok, p6_ok]
theorem forL_step {g : GM} {m : SS} {w : W} {r : List W} {s s1 s2 : Env'} {S S1 S2 : Store} (h1 : g w s S = .ok s1 S1) (h2 : m s1 S1 = .ok (.nx, s2) S2) : mForL g m (w :: r) s S = mForL g m r s2 S2 := by
  show (g w s S).bind _ = _
  rw [h1, ok_bind, h2, ok_bind]
theorem lsM_ok : lsM (env o0 o1 a b o3 o6 o7 o8 o9) S = .ok (.fix [.lst (errs a b), .lst (errs a b)]) S := by kernel_rfl
theorem for_ok (ha : a ∈ nineL) (hb : b ∈ nineL) : mFor lsM (gNm 3) loopB (env o0 o1 a b o3 o6 o7 o8 o9) S = .ok (.nx, env o0 o1 a b (some (.lst (errs a b))) (some (.lst belowL)) (some (.lst belowL)) (some (.lst kindsL)) o9) S := by
  have g3 : ∀ (w : W) (o3 o6 o7 o8 : Option W), gNm 3 w (env o0 o1 a b o3 o6 o7 o8 o9) S = .ok (env o0 o1 a b (some w) o6 o7 o8 o9) S := fun _ _ _ _ _ => rfl
  rw [mFor_eq, lsM_ok, ok_bind, mForI_fix]
  rw [forL_step (g3 ..) (loop_ok ha hb), forL_step (g3 ..) (loop_ok ha hb)]
  rfl
theorem d3_ok : d3 [o0, o1, o3, o6, some a, some b, o7, o8, o9, none, none, none] S = .ok (.nx, env o0 o1 a b o6 o7 o8 o9 none) S := by kernel_rfl
end
theorem law_ev {ns : List Int} (hn : ns.length ≤ 63) : Ev (G_law [.flst (ns.map W.int)] []) fun v _ => v = .bl true := by
  obtain ⟨b, hb, ec⟩ := cells_ok (S := []) hn
  show Ev (runB 12 sh_law _ _) _
  rw [sh_law_eq]
  have ok2 : okR (2 : Int) = true := by decide
  simp only [runB_eq, startW, List.map_cons, List.map_nil, List.length_cons, List.length_nil, List.replicate, List.cons_append, List.nil_append, ev_bind, mSeq_eq, d1, d2, mAsg_eq, mAp_eq, mCons_eq, mVar_0, mVar_s, mNil_eq, ok_bind, ec, gNm_eq, ev_ok, seqK_nx, List.set_cons_succ, List.set_cons_zero, mC_eq, mLc_eq, mRange1_eq, rng1_eq, ok2, if_true, mLcI_fix]
  have hr : rngW 0 (Int.toNat 2) = [.int 0, .int 1] := rfl
  have hw : ∀ x : W, wipeW [some x, some (.ref 0), none, none, none, none, none, none, none, none, none, none] [9] = [some x, some (.ref 0), none, none, none, none, none, none, none, none, none, none] := fun x => rfl
  rw [hr, hw]
  simp only [mLcL_cons, mLcL_nil, mLcT_eq, gNm_eq, nox_ok, ok_bind, ev_bind, ev_ok, mYes_eq, if_true, List.set_cons_succ, List.set_cons_zero, ev_nox, mAp_eq, nine_ok, mVar_0, mVar_s]
  refine ev_one (l := 0) (b := b) (ws := nineL) (.inl rfl) rfl hb (by simp [nineL]) (by decide) fun x b1 hx hb1 => ?_
  have l0 : ([] : List W).length < lim := by decide
  have l1 : ([] ++ [x] : List W).length < lim := (by decide : 1 < lim)
  rw [if_pos l0, ev_ok]
  refine ev_one (l := 0) (b := b1) (ws := nineL) (.inl rfl) rfl hb1 (by simp [nineL]) (by decide) fun y b2 hy hb2 => ?_
  rw [if_pos l1, ev_ok]
  generalize (([b.ob].set 0 b1.ob).set 0 b2.ob) = T
  have e1 : gLs 2 (RL.gCons (gNm 4) (RL.gCons (gNm 5) RL.gNil)) (W.lst ([] ++ [x] ++ [y])) [some (W.flst (List.map W.int ns)), some (W.ref 0), none, none, none, none, none, none, none, none, none, none] T = .ok [some (W.flst (List.map W.int ns)), some (W.ref 0), none, none, some x, some y, none, none, none, none, none, none] T := rfl
  rw [e1, ev_ok, d3_ok, ev_ok, seqK_nx, mSeq_eq, for_ok hx hy, ok_bind, seqK_nx, mRet_eq, mC_eq, ok_bind, ev_ok, runK_rt, ev_ok]
theorem plain : ∀ ns : List Int, ns.length ≤ 63 → ∃ S, G_law [.flst (ns.map W.int)] [] = .ok (.bl true) S := fun ns hn => Ev.law (law_ev hn)
end Dk01
end

open PySem PySem.W PyProof.Rows
set_option maxRecDepth 100000 in
set_option maxHeartbeats 0 in
theorem PySem.Challenge.cw_unseenmap_k01_errors_holds : PySem.Challenge.rw_unseenmap_k01_errors.Holds := by
  w_on; o_law; k_head; (case hw => w_witness2)
  k_fill
  refine RL.walk_law (k := 11) (x := "_law_script") (st := Dk01.s_law) (g := Dk01.G_law) Dk01.plain (fun _ _ _ _ _ _ _ => rfl) rfl rfl ⟨rfl, by decide, by decide⟩ (fun w h Y => PySem.W.kIn_of Y) ?F
  case F =>
    intro w mg h KX G
    have xT_Apart : RL.XcT _ mg "Apart" := RL.xct_mk KX G (by k_is) (by k_is) (by k_is) (by k_is) (by k_is) (by k_is) (by k_is) (by k_is) (by k_is) (by k_is)
    have xT_Breaks : RL.XcT _ mg "Breaks" := RL.xct_mk KX G (by k_is) (by k_is) (by k_is) (by k_is) (by k_is) (by k_is) (by k_is) (by k_is) (by k_is) (by k_is)
    have xT_DuplicateName : RL.XcT _ mg "DuplicateName" := RL.xct_mk KX G (by k_is) (by k_is) (by k_is) (by k_is) (by k_is) (by k_is) (by k_is) (by k_is) (by k_is) (by k_is)
    have xT_InUse : RL.XcT _ mg "InUse" := RL.xct_mk KX G (by k_is) (by k_is) (by k_is) (by k_is) (by k_is) (by k_is) (by k_is) (by k_is) (by k_is) (by k_is)
    have xT_InvalidCommand : RL.XcT _ mg "InvalidCommand" := RL.xct_mk KX G (by k_is) (by k_is) (by k_is) (by k_is) (by k_is) (by k_is) (by k_is) (by k_is) (by k_is) (by k_is)
    have xT_InvalidKind : RL.XcT _ mg "InvalidKind" := RL.xct_mk KX G (by k_is) (by k_is) (by k_is) (by k_is) (by k_is) (by k_is) (by k_is) (by k_is) (by k_is) (by k_is)
    have xT_InvalidLabel : RL.XcT _ mg "InvalidLabel" := RL.xct_mk KX G (by k_is) (by k_is) (by k_is) (by k_is) (by k_is) (by k_is) (by k_is) (by k_is) (by k_is) (by k_is)
    have xT_InvalidName : RL.XcT _ mg "InvalidName" := RL.xct_mk KX G (by k_is) (by k_is) (by k_is) (by k_is) (by k_is) (by k_is) (by k_is) (by k_is) (by k_is) (by k_is)
    have xT_InvalidNumber : RL.XcT _ mg "InvalidNumber" := RL.xct_mk KX G (by k_is) (by k_is) (by k_is) (by k_is) (by k_is) (by k_is) (by k_is) (by k_is) (by k_is) (by k_is)
    have xT_InvalidPage : RL.XcT _ mg "InvalidPage" := RL.xct_mk KX G (by k_is) (by k_is) (by k_is) (by k_is) (by k_is) (by k_is) (by k_is) (by k_is) (by k_is) (by k_is)
    have xT_InvalidStatement : RL.XcT _ mg "InvalidStatement" := RL.xct_mk KX G (by k_is) (by k_is) (by k_is) (by k_is) (by k_is) (by k_is) (by k_is) (by k_is) (by k_is) (by k_is)
    have xT_InvalidStep : RL.XcT _ mg "InvalidStep" := RL.xct_mk KX G (by k_is) (by k_is) (by k_is) (by k_is) (by k_is) (by k_is) (by k_is) (by k_is) (by k_is) (by k_is)
    have xT_InvalidTerm : RL.XcT _ mg "InvalidTerm" := RL.xct_mk KX G (by k_is) (by k_is) (by k_is) (by k_is) (by k_is) (by k_is) (by k_is) (by k_is) (by k_is) (by k_is)
    have xT_InvalidText : RL.XcT _ mg "InvalidText" := RL.xct_mk KX G (by k_is) (by k_is) (by k_is) (by k_is) (by k_is) (by k_is) (by k_is) (by k_is) (by k_is) (by k_is)
    have xT_NothingLeft : RL.XcT _ mg "NothingLeft" := RL.xct_mk KX G (by k_is) (by k_is) (by k_is) (by k_is) (by k_is) (by k_is) (by k_is) (by k_is) (by k_is) (by k_is)
    have xT_TooDeep : RL.XcT _ mg "TooDeep" := RL.xct_mk KX G (by k_is) (by k_is) (by k_is) (by k_is) (by k_is) (by k_is) (by k_is) (by k_is) (by k_is) (by k_is)
    have xT_TooMany : RL.XcT _ mg "TooMany" := RL.xct_mk KX G (by k_is) (by k_is) (by k_is) (by k_is) (by k_is) (by k_is) (by k_is) (by k_is) (by k_is) (by k_is)
    have xT_UnknownCell : RL.XcT _ mg "UnknownCell" := RL.xct_mk KX G (by k_is) (by k_is) (by k_is) (by k_is) (by k_is) (by k_is) (by k_is) (by k_is) (by k_is) (by k_is)
    have xT_UnknownName : RL.XcT _ mg "UnknownName" := RL.xct_mk KX G (by k_is) (by k_is) (by k_is) (by k_is) (by k_is) (by k_is) (by k_is) (by k_is) (by k_is) (by k_is)
    have xT_Unlike : RL.XcT _ mg "Unlike" := RL.xct_mk KX G (by k_is) (by k_is) (by k_is) (by k_is) (by k_is) (by k_is) (by k_is) (by k_is) (by k_is) (by k_is)
    have T : Dk01.Txt w _ mg := {
      z_IndexError := PySem.W.mg_none_of KX G (by k_is),
      z_LookupError := PySem.W.mg_none_of KX G (by k_is),
      z_ValueError := PySem.W.mg_none_of KX G (by k_is),
      z_all := PySem.W.mg_none_of KX G (by k_is),
      z_bool := PySem.W.mg_none_of KX G (by k_is),
      z_int := PySem.W.mg_none_of KX G (by k_is),
      z_isinstance := PySem.W.mg_none_of KX G (by k_is),
      z_len := PySem.W.mg_none_of KX G (by k_is),
      z_list := PySem.W.mg_none_of KX G (by k_is),
      z_range := PySem.W.mg_none_of KX G (by k_is),
      z_str := PySem.W.mg_none_of KX G (by k_is),
      z_super := PySem.W.mg_none_of KX G (by k_is),
      z_tuple := PySem.W.mg_none_of KX G (by k_is),
      z_zip := PySem.W.mg_none_of KX G (by k_is),
      k_InvalidName := RL.kconC_mk KX G (by k_is),
      k_InvalidTerm := RL.kconC_mk KX G (by k_is),
      k_MapError := RL.kconC_mk KX G (by k_is),
      k_Missing := RL.kconC_mk KX G (by k_is),
      k_UnknownName := RL.kconC_mk KX G (by k_is),
      x_Apart := RL.xtx_mk RL.bas_VE Dk01.sx_Apart KX G (by k_is) (by k_is) (by k_is) (by k_is) (by kx_is) (by kx_is) (by ks_is) (by k_is) (by k_is) (by k_is) (by k_is) (by k_is) (by k_is) (by k_is) (by k_is) (by rfl) (by k_is) (fun z m => by simp only [Dk01.l_Apart, List.mem_cons, List.not_mem_nil, or_false] at m; rcases m with rfl <;> k_is),
      x_Breaks := RL.xtx_mk RL.bas_VE Dk01.sx_Breaks KX G (by k_is) (by k_is) (by k_is) (by k_is) (by kx_is) (by kx_is) (by ks_is) (by k_is) (by k_is) (by k_is) (by k_is) (by k_is) (by k_is) (by k_is) (by k_is) (by rfl) (by k_is) (fun z m => by simp only [Dk01.l_Breaks, List.mem_cons, List.not_mem_nil, or_false] at m; rcases m with rfl | rfl | rfl <;> k_is),
      x_DuplicateName := RL.xtx_mk RL.bas_VE Dk01.sx_DuplicateName KX G (by k_is) (by k_is) (by k_is) (by k_is) (by kx_is) (by kx_is) (by ks_is) (by k_is) (by k_is) (by k_is) (by k_is) (by k_is) (by k_is) (by k_is) (by k_is) (by rfl) (by k_is) (fun z m => by simp only [Dk01.l_DuplicateName, List.mem_cons, List.not_mem_nil, or_false] at m; rcases m with rfl | rfl <;> k_is),
      x_InUse := RL.xtx_mk RL.bas_VE Dk01.sx_InUse KX G (by k_is) (by k_is) (by k_is) (by k_is) (by kx_is) (by kx_is) (by ks_is) (by k_is) (by k_is) (by k_is) (by k_is) (by k_is) (by k_is) (by k_is) (by k_is) (by rfl) (by k_is) (fun z m => by simp only [Dk01.l_InUse, List.mem_cons, List.not_mem_nil, or_false] at m; rcases m with rfl | rfl <;> k_is),
      x_InvalidCommand := RL.xtx_mk RL.bas_VE Dk01.sx_InvalidCommand KX G (by k_is) (by k_is) (by k_is) (by k_is) (by kx_is) (by kx_is) (by ks_is) (by k_is) (by k_is) (by k_is) (by k_is) (by k_is) (by k_is) (by k_is) (by k_is) (by rfl) (by k_is) (fun z m => by simp only [Dk01.l_InvalidCommand, List.mem_cons, List.not_mem_nil, or_false] at m; rcases m with rfl | rfl <;> k_is),
      x_InvalidKind := RL.xtx_mk RL.bas_VE Dk01.sx_InvalidKind KX G (by k_is) (by k_is) (by k_is) (by k_is) (by kx_is) (by kx_is) (by ks_is) (by k_is) (by k_is) (by k_is) (by k_is) (by k_is) (by k_is) (by k_is) (by k_is) (by rfl) (by k_is) (fun z m => by simp only [Dk01.l_InvalidKind, List.mem_cons, List.not_mem_nil, or_false] at m; rcases m with rfl | rfl <;> k_is),
      x_InvalidLabel := RL.xtx_mk RL.bas_VE Dk01.sx_InvalidLabel KX G (by k_is) (by k_is) (by k_is) (by k_is) (by kx_is) (by kx_is) (by ks_is) (by k_is) (by k_is) (by k_is) (by k_is) (by k_is) (by k_is) (by k_is) (by k_is) (by rfl) (by k_is) (fun z m => by simp only [Dk01.l_InvalidLabel, List.mem_cons, List.not_mem_nil, or_false] at m; rcases m with rfl | rfl <;> k_is),
      x_InvalidName := RL.xtx_mk RL.bas_VE Dk01.sx_InvalidName KX G (by k_is) (by k_is) (by k_is) (by k_is) (by kx_is) (by kx_is) (by ks_is) (by k_is) (by k_is) (by k_is) (by k_is) (by k_is) (by k_is) (by k_is) (by k_is) (by rfl) (by k_is) (fun z m => by simp only [Dk01.l_InvalidName, List.mem_cons, List.not_mem_nil, or_false] at m; rcases m with rfl | rfl <;> k_is),
      x_InvalidNumber := RL.xtx_mk RL.bas_VE Dk01.sx_InvalidNumber KX G (by k_is) (by k_is) (by k_is) (by k_is) (by kx_is) (by kx_is) (by ks_is) (by k_is) (by k_is) (by k_is) (by k_is) (by k_is) (by k_is) (by k_is) (by k_is) (by rfl) (by k_is) (fun z m => by simp only [Dk01.l_InvalidNumber, List.mem_cons, List.not_mem_nil, or_false] at m; rcases m with rfl | rfl <;> k_is),
      x_InvalidPage := RL.xtx_mk RL.bas_VE Dk01.sx_InvalidPage KX G (by k_is) (by k_is) (by k_is) (by k_is) (by kx_is) (by kx_is) (by ks_is) (by k_is) (by k_is) (by k_is) (by k_is) (by k_is) (by k_is) (by k_is) (by k_is) (by rfl) (by k_is) (fun z m => by simp only [Dk01.l_InvalidPage, List.mem_cons, List.not_mem_nil, or_false] at m; rcases m with rfl | rfl <;> k_is),
      x_InvalidStatement := RL.xtx_mk RL.bas_VE Dk01.sx_InvalidStatement KX G (by k_is) (by k_is) (by k_is) (by k_is) (by kx_is) (by kx_is) (by ks_is) (by k_is) (by k_is) (by k_is) (by k_is) (by k_is) (by k_is) (by k_is) (by k_is) (by rfl) (by k_is) (fun z m => by simp only [Dk01.l_InvalidStatement, List.mem_cons, List.not_mem_nil, or_false] at m; rcases m with rfl | rfl <;> k_is),
      x_InvalidStep := RL.xtx_mk RL.bas_VE Dk01.sx_InvalidStep KX G (by k_is) (by k_is) (by k_is) (by k_is) (by kx_is) (by kx_is) (by ks_is) (by k_is) (by k_is) (by k_is) (by k_is) (by k_is) (by k_is) (by k_is) (by k_is) (by rfl) (by k_is) (fun z m => by simp only [Dk01.l_InvalidStep, List.mem_cons, List.not_mem_nil, or_false] at m; rcases m with rfl | rfl <;> k_is),
      x_InvalidTerm := RL.xtx_mk RL.bas_VE Dk01.sx_InvalidTerm KX G (by k_is) (by k_is) (by k_is) (by k_is) (by kx_is) (by kx_is) (by ks_is) (by k_is) (by k_is) (by k_is) (by k_is) (by k_is) (by k_is) (by k_is) (by k_is) (by rfl) (by k_is) (fun z m => by simp only [Dk01.l_InvalidTerm, List.mem_cons, List.not_mem_nil, or_false] at m; rcases m with rfl | rfl <;> k_is),
      x_InvalidText := RL.xtx_mk RL.bas_VE Dk01.sx_InvalidText KX G (by k_is) (by k_is) (by k_is) (by k_is) (by kx_is) (by kx_is) (by ks_is) (by k_is) (by k_is) (by k_is) (by k_is) (by k_is) (by k_is) (by k_is) (by k_is) (by rfl) (by k_is) (fun z m => by simp only [Dk01.l_InvalidText, List.mem_cons, List.not_mem_nil, or_false] at m; rcases m with rfl | rfl <;> k_is),
      x_NothingLeft := RL.xtx_mk RL.bas_IE Dk01.sx_NothingLeft KX G (by k_is) (by k_is) (by k_is) (by k_is) (by kx_is) (by kx_is) (by ks_is) (by k_is) (by k_is) (by k_is) (by k_is) (by k_is) (by k_is) (by k_is) (by k_is) (by rfl) (by k_is) (fun z m => by simp only [Dk01.l_NothingLeft, List.mem_cons, List.not_mem_nil, or_false] at m; rcases m with rfl <;> k_is),
      x_TooDeep := RL.xtx_mk RL.bas_VE Dk01.sx_TooDeep KX G (by k_is) (by k_is) (by k_is) (by k_is) (by kx_is) (by kx_is) (by ks_is) (by k_is) (by k_is) (by k_is) (by k_is) (by k_is) (by k_is) (by k_is) (by k_is) (by rfl) (by k_is) (fun z m => by simp only [Dk01.l_TooDeep, List.mem_cons, List.not_mem_nil, or_false] at m; rcases m with rfl | rfl <;> k_is),
      x_TooMany := RL.xtx_mk RL.bas_VE Dk01.sx_TooMany KX G (by k_is) (by k_is) (by k_is) (by k_is) (by kx_is) (by kx_is) (by ks_is) (by k_is) (by k_is) (by k_is) (by k_is) (by k_is) (by k_is) (by k_is) (by k_is) (by rfl) (by k_is) (fun z m => by simp only [Dk01.l_TooMany, List.mem_cons, List.not_mem_nil, or_false] at m; rcases m with rfl | rfl <;> k_is),
      x_UnknownCell := RL.xtx_mk RL.bas_LE Dk01.sx_UnknownCell KX G (by k_is) (by k_is) (by k_is) (by k_is) (by kx_is) (by kx_is) (by ks_is) (by k_is) (by k_is) (by k_is) (by k_is) (by k_is) (by k_is) (by k_is) (by k_is) (by rfl) (by k_is) (fun z m => by simp only [Dk01.l_UnknownCell, List.mem_cons, List.not_mem_nil, or_false] at m; rcases m with rfl | rfl <;> k_is),
      x_UnknownName := RL.xtx_mk RL.bas_LE Dk01.sx_UnknownName KX G (by k_is) (by k_is) (by k_is) (by k_is) (by kx_is) (by kx_is) (by ks_is) (by k_is) (by k_is) (by k_is) (by k_is) (by k_is) (by k_is) (by k_is) (by k_is) (by rfl) (by k_is) (fun z m => by simp only [Dk01.l_UnknownName, List.mem_cons, List.not_mem_nil, or_false] at m; rcases m with rfl | rfl <;> k_is),
      x_Unlike := RL.xtx_mk RL.bas_VE Dk01.sx_Unlike KX G (by k_is) (by k_is) (by k_is) (by k_is) (by kx_is) (by kx_is) (by ks_is) (by k_is) (by k_is) (by k_is) (by k_is) (by k_is) (by k_is) (by k_is) (by k_is) (by rfl) (by k_is) (fun z m => by simp only [Dk01.l_Unlike, List.mem_cons, List.not_mem_nil, or_false] at m; rcases m with rfl <;> k_is),
      xf_code := (RL.xft_cons KX G xT_InvalidName (by k_is) (by k_is) (RL.xft_cons KX G xT_InvalidTerm (by k_is) (by k_is) (RL.xft_cons KX G xT_InvalidStatement (by k_is) (by k_is) (RL.xft_cons KX G xT_InvalidStep (by k_is) (by k_is) (RL.xft_cons KX G xT_InvalidNumber (by k_is) (by k_is) (RL.xft_cons KX G xT_InvalidLabel (by k_is) (by k_is) (RL.xft_cons KX G xT_InvalidKind (by k_is) (by k_is) (RL.xft_cons KX G xT_InvalidText (by k_is) (by k_is) (RL.xft_cons KX G xT_InvalidCommand (by k_is) (by k_is) (RL.xft_cons KX G xT_InvalidPage (by k_is) (by k_is) (RL.xft_cons KX G xT_DuplicateName (by k_is) (by k_is) (RL.xft_cons KX G xT_TooDeep (by k_is) (by k_is) (RL.xft_cons KX G xT_TooMany (by k_is) (by k_is) (RL.xft_cons KX G xT_InUse (by k_is) (by k_is) (RL.xft_cons KX G xT_Unlike (by k_is) (by k_is) (RL.xft_cons KX G xT_Apart (by k_is) (by k_is) (RL.xft_cons KX G xT_Breaks (by k_is) (by k_is) (RL.xft_cons KX G xT_UnknownName (by k_is) (by k_is) (RL.xft_cons KX G xT_UnknownCell (by k_is) (by k_is) (RL.xft_cons KX G xT_NothingLeft (by k_is) (by k_is) RL.xft_nil)))))))))))))))))))),
      xf_fact_name := (RL.xft_cons KX G xT_Breaks (by k_is) (by k_is) RL.xft_nil),
      xf_limit := (RL.xft_cons KX G xT_TooDeep (by k_is) (by k_is) (RL.xft_cons KX G xT_TooMany (by k_is) (by k_is) RL.xft_nil)),
      xf_line := (RL.xft_cons KX G xT_InvalidText (by k_is) (by k_is) (RL.xft_cons KX G xT_InvalidPage (by k_is) (by k_is) RL.xft_nil)),
      xf_path := (RL.xft_cons KX G xT_InvalidStep (by k_is) (by k_is) RL.xft_nil),
      xf_sheet_name := (RL.xft_cons KX G xT_Breaks (by k_is) (by k_is) RL.xft_nil),
      xf_user := (RL.xft_cons KX G xT_InUse (by k_is) (by k_is) RL.xft_nil),
      xf_value := (RL.xft_cons KX G xT_InvalidName (by k_is) (by k_is) (RL.xft_cons KX G xT_InvalidTerm (by k_is) (by k_is) (RL.xft_cons KX G xT_InvalidStatement (by k_is) (by k_is) (RL.xft_cons KX G xT_InvalidNumber (by k_is) (by k_is) (RL.xft_cons KX G xT_InvalidLabel (by k_is) (by k_is) (RL.xft_cons KX G xT_InvalidKind (by k_is) (by k_is) (RL.xft_cons KX G xT_DuplicateName (by k_is) (by k_is) (RL.xft_cons KX G xT_UnknownName (by k_is) (by k_is) (RL.xft_cons KX G xT_UnknownCell (by k_is) (by k_is) RL.xft_nil))))))))),
      xf_word := (RL.xft_cons KX G xT_InvalidCommand (by k_is) (by k_is) RL.xft_nil),
      ig := (RL.xig_cons KX G xT_InvalidName (by k_is) (by k_is) (by k_is) (by k_is) (by k_is) (fun e => by first | rfl | exact absurd e (by decide)) (RL.xig_cons KX G xT_InvalidTerm (by k_is) (by k_is) (by k_is) (by k_is) (by k_is) (fun e => by first | rfl | exact absurd e (by decide)) (RL.xig_cons KX G xT_InvalidStatement (by k_is) (by k_is) (by k_is) (by k_is) (by k_is) (fun e => by first | rfl | exact absurd e (by decide)) (RL.xig_cons KX G xT_InvalidStep (by k_is) (by k_is) (by k_is) (by k_is) (by k_is) (fun e => by first | rfl | exact absurd e (by decide)) (RL.xig_cons KX G xT_InvalidNumber (by k_is) (by k_is) (by k_is) (by k_is) (by k_is) (fun e => by first | rfl | exact absurd e (by decide)) (RL.xig_cons KX G xT_InvalidLabel (by k_is) (by k_is) (by k_is) (by k_is) (by k_is) (fun e => by first | rfl | exact absurd e (by decide)) (RL.xig_cons KX G xT_InvalidKind (by k_is) (by k_is) (by k_is) (by k_is) (by k_is) (fun e => by first | rfl | exact absurd e (by decide)) (RL.xig_cons KX G xT_InvalidText (by k_is) (by k_is) (by k_is) (by k_is) (by k_is) (fun e => by first | rfl | exact absurd e (by decide)) (RL.xig_cons KX G xT_InvalidCommand (by k_is) (by k_is) (by k_is) (by k_is) (by k_is) (fun e => by first | rfl | exact absurd e (by decide)) (RL.xig_cons KX G xT_InvalidPage (by k_is) (by k_is) (by k_is) (by k_is) (by k_is) (fun e => by first | rfl | exact absurd e (by decide)) (RL.xig_cons KX G xT_DuplicateName (by k_is) (by k_is) (by k_is) (by k_is) (by k_is) (fun e => by first | rfl | exact absurd e (by decide)) (RL.xig_cons KX G xT_TooDeep (by k_is) (by k_is) (by k_is) (by k_is) (by k_is) (fun e => by first | rfl | exact absurd e (by decide)) (RL.xig_cons KX G xT_TooMany (by k_is) (by k_is) (by k_is) (by k_is) (by k_is) (fun e => by first | rfl | exact absurd e (by decide)) (RL.xig_cons KX G xT_InUse (by k_is) (by k_is) (by k_is) (by k_is) (by k_is) (fun e => by first | rfl | exact absurd e (by decide)) (RL.xig_cons KX G xT_Unlike (by k_is) (by k_is) (by k_is) (by k_is) (by k_is) (fun e => by first | rfl | exact absurd e (by decide)) (RL.xig_cons KX G xT_Apart (by k_is) (by k_is) (by k_is) (by k_is) (by k_is) (fun e => by first | rfl | exact absurd e (by decide)) (RL.xig_cons KX G xT_Breaks (by k_is) (by k_is) (by k_is) (by k_is) (by k_is) (fun e => by first | rfl | exact absurd e (by decide)) (RL.xig_cons KX G xT_UnknownName (by k_is) (by k_is) (by k_is) (by k_is) (by k_is) (fun e => by first | rfl | exact absurd e (by decide)) (RL.xig_cons KX G xT_UnknownCell (by k_is) (by k_is) (by k_is) (by k_is) (by k_is) (fun e => by first | rfl | exact absurd e (by decide)) (RL.xig_cons KX G xT_NothingLeft (by k_is) (by k_is) (by k_is) (by k_is) (by k_is) (fun e => by first | rfl | exact absurd e (by decide)) (RL.xig_cons KX G xT_InvalidName (by k_is) (by k_is) (by k_is) (by k_is) (by k_is) (fun e => by first | rfl | exact absurd e (by decide)) (RL.xig_cons KX G xT_InvalidTerm (by k_is) (by k_is) (by k_is) (by k_is) (by k_is) (fun e => by first | rfl | exact absurd e (by decide)) (RL.xig_cons KX G xT_InvalidStatement (by k_is) (by k_is) (by k_is) (by k_is) (by k_is) (fun e => by first | rfl | exact absurd e (by decide)) (RL.xig_cons KX G xT_InvalidStep (by k_is) (by k_is) (by k_is) (by k_is) (by k_is) (fun e => by first | rfl | exact absurd e (by decide)) (RL.xig_cons KX G xT_InvalidNumber (by k_is) (by k_is) (by k_is) (by k_is) (by k_is) (fun e => by first | rfl | exact absurd e (by decide)) (RL.xig_cons KX G xT_InvalidLabel (by k_is) (by k_is) (by k_is) (by k_is) (by k_is) (fun e => by first | rfl | exact absurd e (by decide)) (RL.xig_cons KX G xT_InvalidKind (by k_is) (by k_is) (by k_is) (by k_is) (by k_is) (fun e => by first | rfl | exact absurd e (by decide)) (RL.xig_cons KX G xT_InvalidText (by k_is) (by k_is) (by k_is) (by k_is) (by k_is) (fun e => by first | rfl | exact absurd e (by decide)) (RL.xig_cons KX G xT_InvalidCommand (by k_is) (by k_is) (by k_is) (by k_is) (by k_is) (fun e => by first | rfl | exact absurd e (by decide)) (RL.xig_cons KX G xT_InvalidPage (by k_is) (by k_is) (by k_is) (by k_is) (by k_is) (fun e => by first | rfl | exact absurd e (by decide)) (RL.xig_cons KX G xT_DuplicateName (by k_is) (by k_is) (by k_is) (by k_is) (by k_is) (fun e => by first | rfl | exact absurd e (by decide)) (RL.xig_cons KX G xT_TooDeep (by k_is) (by k_is) (by k_is) (by k_is) (by k_is) (fun e => by first | rfl | exact absurd e (by decide)) (RL.xig_cons KX G xT_TooMany (by k_is) (by k_is) (by k_is) (by k_is) (by k_is) (fun e => by first | rfl | exact absurd e (by decide)) (RL.xig_cons KX G xT_InUse (by k_is) (by k_is) (by k_is) (by k_is) (by k_is) (fun e => by first | rfl | exact absurd e (by decide)) (RL.xig_cons KX G xT_Unlike (by k_is) (by k_is) (by k_is) (by k_is) (by k_is) (fun e => by first | rfl | exact absurd e (by decide)) (RL.xig_cons KX G xT_Apart (by k_is) (by k_is) (by k_is) (by k_is) (by k_is) (fun e => by first | rfl | exact absurd e (by decide)) (RL.xig_cons KX G xT_Breaks (by k_is) (by k_is) (by k_is) (by k_is) (by k_is) (fun e => by first | rfl | exact absurd e (by decide)) (RL.xig_cons KX G xT_UnknownName (by k_is) (by k_is) (by k_is) (by k_is) (by k_is) (fun e => by first | rfl | exact absurd e (by decide)) (RL.xig_cons KX G xT_UnknownCell (by k_is) (by k_is) (by k_is) (by k_is) (by k_is) (fun e => by first | rfl | exact absurd e (by decide)) (RL.xig_cons KX G xT_NothingLeft (by k_is) (by k_is) (by k_is) (by k_is) (by k_is) (fun e => by first | rfl | exact absurd e (by decide)) (RL.xig_cons KX G xT_InvalidName (by k_is) (by k_is) (by k_is) (by k_is) (by k_is) (fun e => by first | rfl | exact absurd e (by decide)) (RL.xig_cons KX G xT_InvalidTerm (by k_is) (by k_is) (by k_is) (by k_is) (by k_is) (fun e => by first | rfl | exact absurd e (by decide)) (RL.xig_cons KX G xT_InvalidStatement (by k_is) (by k_is) (by k_is) (by k_is) (by k_is) (fun e => by first | rfl | exact absurd e (by decide)) (RL.xig_cons KX G xT_InvalidStep (by k_is) (by k_is) (by k_is) (by k_is) (by k_is) (fun e => by first | rfl | exact absurd e (by decide)) (RL.xig_cons KX G xT_InvalidNumber (by k_is) (by k_is) (by k_is) (by k_is) (by k_is) (fun e => by first | rfl | exact absurd e (by decide)) (RL.xig_cons KX G xT_InvalidLabel (by k_is) (by k_is) (by k_is) (by k_is) (by k_is) (fun e => by first | rfl | exact absurd e (by decide)) (RL.xig_cons KX G xT_InvalidKind (by k_is) (by k_is) (by k_is) (by k_is) (by k_is) (fun e => by first | rfl | exact absurd e (by decide)) (RL.xig_cons KX G xT_InvalidText (by k_is) (by k_is) (by k_is) (by k_is) (by k_is) (fun e => by first | rfl | exact absurd e (by decide)) (RL.xig_cons KX G xT_InvalidCommand (by k_is) (by k_is) (by k_is) (by k_is) (by k_is) (fun e => by first | rfl | exact absurd e (by decide)) (RL.xig_cons KX G xT_InvalidPage (by k_is) (by k_is) (by k_is) (by k_is) (by k_is) (fun e => by first | rfl | exact absurd e (by decide)) (RL.xig_cons KX G xT_DuplicateName (by k_is) (by k_is) (by k_is) (by k_is) (by k_is) (fun e => by first | rfl | exact absurd e (by decide)) (RL.xig_cons KX G xT_TooDeep (by k_is) (by k_is) (by k_is) (by k_is) (by k_is) (fun e => by first | rfl | exact absurd e (by decide)) (RL.xig_cons KX G xT_TooMany (by k_is) (by k_is) (by k_is) (by k_is) (by k_is) (fun e => by first | rfl | exact absurd e (by decide)) (RL.xig_cons KX G xT_InUse (by k_is) (by k_is) (by k_is) (by k_is) (by k_is) (fun e => by first | rfl | exact absurd e (by decide)) (RL.xig_cons KX G xT_Unlike (by k_is) (by k_is) (by k_is) (by k_is) (by k_is) (fun e => by first | rfl | exact absurd e (by decide)) (RL.xig_cons KX G xT_Apart (by k_is) (by k_is) (by k_is) (by k_is) (by k_is) (fun e => by first | rfl | exact absurd e (by decide)) (RL.xig_cons KX G xT_Breaks (by k_is) (by k_is) (by k_is) (by k_is) (by k_is) (fun e => by first | rfl | exact absurd e (by decide)) (RL.xig_cons KX G xT_UnknownName (by k_is) (by k_is) (by k_is) (by k_is) (by k_is) (fun e => by first | rfl | exact absurd e (by decide)) (RL.xig_cons KX G xT_UnknownCell (by k_is) (by k_is) (by k_is) (by k_is) (by k_is) (fun e => by first | rfl | exact absurd e (by decide)) (RL.xig_cons KX G xT_NothingLeft (by k_is) (by k_is) (by k_is) (by k_is) (by k_is) (fun e => by first | rfl | exact absurd e (by decide)) (RL.xig_cons KX G xT_InvalidName (by k_is) (by k_is) (by k_is) (by k_is) (by k_is) (fun e => by first | rfl | exact absurd e (by decide)) (RL.xig_cons KX G xT_InvalidTerm (by k_is) (by k_is) (by k_is) (by k_is) (by k_is) (fun e => by first | rfl | exact absurd e (by decide)) (RL.xig_cons KX G xT_InvalidStatement (by k_is) (by k_is) (by k_is) (by k_is) (by k_is) (fun e => by first | rfl | exact absurd e (by decide)) (RL.xig_cons KX G xT_InvalidStep (by k_is) (by k_is) (by k_is) (by k_is) (by k_is) (fun e => by first | rfl | exact absurd e (by decide)) (RL.xig_cons KX G xT_InvalidNumber (by k_is) (by k_is) (by k_is) (by k_is) (by k_is) (fun e => by first | rfl | exact absurd e (by decide)) (RL.xig_cons KX G xT_InvalidLabel (by k_is) (by k_is) (by k_is) (by k_is) (by k_is) (fun e => by first | rfl | exact absurd e (by decide)) (RL.xig_cons KX G xT_InvalidKind (by k_is) (by k_is) (by k_is) (by k_is) (by k_is) (fun e => by first | rfl | exact absurd e (by decide)) (RL.xig_cons KX G xT_InvalidText (by k_is) (by k_is) (by k_is) (by k_is) (by k_is) (fun e => by first | rfl | exact absurd e (by decide)) (RL.xig_cons KX G xT_InvalidCommand (by k_is) (by k_is) (by k_is) (by k_is) (by k_is) (fun e => by first | rfl | exact absurd e (by decide)) (RL.xig_cons KX G xT_InvalidPage (by k_is) (by k_is) (by k_is) (by k_is) (by k_is) (fun e => by first | rfl | exact absurd e (by decide)) (RL.xig_cons KX G xT_DuplicateName (by k_is) (by k_is) (by k_is) (by k_is) (by k_is) (fun e => by first | rfl | exact absurd e (by decide)) (RL.xig_cons KX G xT_TooDeep (by k_is) (by k_is) (by k_is) (by k_is) (by k_is) (fun e => by first | rfl | exact absurd e (by decide)) (RL.xig_cons KX G xT_TooMany (by k_is) (by k_is) (by k_is) (by k_is) (by k_is) (fun e => by first | rfl | exact absurd e (by decide)) (RL.xig_cons KX G xT_InUse (by k_is) (by k_is) (by k_is) (by k_is) (by k_is) (fun e => by first | rfl | exact absurd e (by decide)) (RL.xig_cons KX G xT_Unlike (by k_is) (by k_is) (by k_is) (by k_is) (by k_is) (fun e => by first | rfl | exact absurd e (by decide)) (RL.xig_cons KX G xT_Apart (by k_is) (by k_is) (by k_is) (by k_is) (by k_is) (fun e => by first | rfl | exact absurd e (by decide)) (RL.xig_cons KX G xT_Breaks (by k_is) (by k_is) (by k_is) (by k_is) (by k_is) (fun e => by first | rfl | exact absurd e (by decide)) (RL.xig_cons KX G xT_UnknownName (by k_is) (by k_is) (by k_is) (by k_is) (by k_is) (fun e => by first | rfl | exact absurd e (by decide)) (RL.xig_cons KX G xT_UnknownCell (by k_is) (by k_is) (by k_is) (by k_is) (by k_is) (fun e => by first | rfl | exact absurd e (by decide)) (RL.xig_cons KX G xT_NothingLeft (by k_is) (by k_is) (by k_is) (by k_is) (by k_is) (fun e => by first | rfl | exact absurd e (by decide)) (RL.xig_cons KX G xT_InvalidName (by k_is) (by k_is) (by k_is) (by k_is) (by k_is) (fun e => by first | rfl | exact absurd e (by decide)) (RL.xig_cons KX G xT_InvalidTerm (by k_is) (by k_is) (by k_is) (by k_is) (by k_is) (fun e => by first | rfl | exact absurd e (by decide)) (RL.xig_cons KX G xT_InvalidStatement (by k_is) (by k_is) (by k_is) (by k_is) (by k_is) (fun e => by first | rfl | exact absurd e (by decide)) (RL.xig_cons KX G xT_InvalidStep (by k_is) (by k_is) (by k_is) (by k_is) (by k_is) (fun e => by first | rfl | exact absurd e (by decide)) (RL.xig_cons KX G xT_InvalidNumber (by k_is) (by k_is) (by k_is) (by k_is) (by k_is) (fun e => by first | rfl | exact absurd e (by decide)) (RL.xig_cons KX G xT_InvalidLabel (by k_is) (by k_is) (by k_is) (by k_is) (by k_is) (fun e => by first | rfl | exact absurd e (by decide)) (RL.xig_cons KX G xT_InvalidKind (by k_is) (by k_is) (by k_is) (by k_is) (by k_is) (fun e => by first | rfl | exact absurd e (by decide)) (RL.xig_cons KX G xT_InvalidText (by k_is) (by k_is) (by k_is) (by k_is) (by k_is) (fun e => by first | rfl | exact absurd e (by decide)) (RL.xig_cons KX G xT_InvalidCommand (by k_is) (by k_is) (by k_is) (by k_is) (by k_is) (fun e => by first | rfl | exact absurd e (by decide)) (RL.xig_cons KX G xT_InvalidPage (by k_is) (by k_is) (by k_is) (by k_is) (by k_is) (fun e => by first | rfl | exact absurd e (by decide)) (RL.xig_cons KX G xT_DuplicateName (by k_is) (by k_is) (by k_is) (by k_is) (by k_is) (fun e => by first | rfl | exact absurd e (by decide)) (RL.xig_cons KX G xT_TooDeep (by k_is) (by k_is) (by k_is) (by k_is) (by k_is) (fun e => by first | rfl | exact absurd e (by decide)) (RL.xig_cons KX G xT_TooMany (by k_is) (by k_is) (by k_is) (by k_is) (by k_is) (fun e => by first | rfl | exact absurd e (by decide)) (RL.xig_cons KX G xT_InUse (by k_is) (by k_is) (by k_is) (by k_is) (by k_is) (fun e => by first | rfl | exact absurd e (by decide)) (RL.xig_cons KX G xT_Unlike (by k_is) (by k_is) (by k_is) (by k_is) (by k_is) (fun e => by first | rfl | exact absurd e (by decide)) (RL.xig_cons KX G xT_Apart (by k_is) (by k_is) (by k_is) (by k_is) (by k_is) (fun e => by first | rfl | exact absurd e (by decide)) (RL.xig_cons KX G xT_Breaks (by k_is) (by k_is) (by k_is) (by k_is) (by k_is) (fun e => by first | rfl | exact absurd e (by decide)) (RL.xig_cons KX G xT_UnknownName (by k_is) (by k_is) (by k_is) (by k_is) (by k_is) (fun e => by first | rfl | exact absurd e (by decide)) (RL.xig_cons KX G xT_UnknownCell (by k_is) (by k_is) (by k_is) (by k_is) (by k_is) (fun e => by first | rfl | exact absurd e (by decide)) (RL.xig_cons KX G xT_NothingLeft (by k_is) (by k_is) (by k_is) (by k_is) (by k_is) (fun e => by first | rfl | exact absurd e (by decide)) RL.xig_nil)))))))))))))))))))))))))))))))))))))))))))))))))))))))))))))))))))))))))))))))))))))))))))))))))))),
      it := (RL.xiy_cons KX G xT_InvalidName (by k_is) (by decide +kernel) (by k_is) (RL.xiy_cons KX G xT_InvalidTerm (by k_is) (by decide +kernel) (by k_is) (RL.xiy_cons KX G xT_InvalidStatement (by k_is) (by decide +kernel) (by k_is) (RL.xiy_cons KX G xT_InvalidStep (by k_is) (by decide +kernel) (by k_is) (RL.xiy_cons KX G xT_InvalidNumber (by k_is) (by decide +kernel) (by k_is) (RL.xiy_cons KX G xT_InvalidLabel (by k_is) (by decide +kernel) (by k_is) (RL.xiy_cons KX G xT_InvalidKind (by k_is) (by decide +kernel) (by k_is) (RL.xiy_cons KX G xT_InvalidText (by k_is) (by decide +kernel) (by k_is) (RL.xiy_cons KX G xT_InvalidCommand (by k_is) (by decide +kernel) (by k_is) (RL.xiy_cons KX G xT_InvalidPage (by k_is) (by decide +kernel) (by k_is) (RL.xiy_cons KX G xT_DuplicateName (by k_is) (by decide +kernel) (by k_is) (RL.xiy_cons KX G xT_TooDeep (by k_is) (by decide +kernel) (by k_is) (RL.xiy_cons KX G xT_TooMany (by k_is) (by decide +kernel) (by k_is) (RL.xiy_cons KX G xT_InUse (by k_is) (by decide +kernel) (by k_is) (RL.xiy_cons KX G xT_Unlike (by k_is) (by decide +kernel) (by k_is) (RL.xiy_cons KX G xT_Apart (by k_is) (by decide +kernel) (by k_is) (RL.xiy_cons KX G xT_Breaks (by k_is) (by decide +kernel) (by k_is) (RL.xiy_cons KX G xT_UnknownName (by k_is) (by decide +kernel) (by k_is) (RL.xiy_cons KX G xT_UnknownCell (by k_is) (by decide +kernel) (by k_is) (RL.xiy_cons KX G xT_NothingLeft (by k_is) (by decide +kernel) (by k_is) (RL.xiy_cons KX G xT_InvalidName (by k_is) (by decide +kernel) (by k_is) (RL.xiy_cons KX G xT_InvalidTerm (by k_is) (by decide +kernel) (by k_is) (RL.xiy_cons KX G xT_InvalidStatement (by k_is) (by decide +kernel) (by k_is) (RL.xiy_cons KX G xT_InvalidStep (by k_is) (by decide +kernel) (by k_is) (RL.xiy_cons KX G xT_InvalidNumber (by k_is) (by decide +kernel) (by k_is) (RL.xiy_cons KX G xT_InvalidLabel (by k_is) (by decide +kernel) (by k_is) (RL.xiy_cons KX G xT_InvalidKind (by k_is) (by decide +kernel) (by k_is) (RL.xiy_cons KX G xT_InvalidText (by k_is) (by decide +kernel) (by k_is) (RL.xiy_cons KX G xT_InvalidCommand (by k_is) (by decide +kernel) (by k_is) (RL.xiy_cons KX G xT_InvalidPage (by k_is) (by decide +kernel) (by k_is) (RL.xiy_cons KX G xT_DuplicateName (by k_is) (by decide +kernel) (by k_is) (RL.xiy_cons KX G xT_TooDeep (by k_is) (by decide +kernel) (by k_is) (RL.xiy_cons KX G xT_TooMany (by k_is) (by decide +kernel) (by k_is) (RL.xiy_cons KX G xT_InUse (by k_is) (by decide +kernel) (by k_is) (RL.xiy_cons KX G xT_Unlike (by k_is) (by decide +kernel) (by k_is) (RL.xiy_cons KX G xT_Apart (by k_is) (by decide +kernel) (by k_is) (RL.xiy_cons KX G xT_Breaks (by k_is) (by decide +kernel) (by k_is) (RL.xiy_cons KX G xT_UnknownName (by k_is) (by decide +kernel) (by k_is) (RL.xiy_cons KX G xT_UnknownCell (by k_is) (by decide +kernel) (by k_is) (RL.xiy_cons KX G xT_NothingLeft (by k_is) (by decide +kernel) (by k_is) (RL.xiy_cons KX G xT_InvalidName (by k_is) (by decide +kernel) (by k_is) (RL.xiy_cons KX G xT_InvalidTerm (by k_is) (by decide +kernel) (by k_is) (RL.xiy_cons KX G xT_InvalidStatement (by k_is) (by decide +kernel) (by k_is) (RL.xiy_cons KX G xT_InvalidStep (by k_is) (by decide +kernel) (by k_is) (RL.xiy_cons KX G xT_InvalidNumber (by k_is) (by decide +kernel) (by k_is) (RL.xiy_cons KX G xT_InvalidLabel (by k_is) (by decide +kernel) (by k_is) (RL.xiy_cons KX G xT_InvalidKind (by k_is) (by decide +kernel) (by k_is) (RL.xiy_cons KX G xT_InvalidText (by k_is) (by decide +kernel) (by k_is) (RL.xiy_cons KX G xT_InvalidCommand (by k_is) (by decide +kernel) (by k_is) (RL.xiy_cons KX G xT_InvalidPage (by k_is) (by decide +kernel) (by k_is) (RL.xiy_cons KX G xT_DuplicateName (by k_is) (by decide +kernel) (by k_is) (RL.xiy_cons KX G xT_TooDeep (by k_is) (by decide +kernel) (by k_is) (RL.xiy_cons KX G xT_TooMany (by k_is) (by decide +kernel) (by k_is) (RL.xiy_cons KX G xT_InUse (by k_is) (by decide +kernel) (by k_is) (RL.xiy_cons KX G xT_Unlike (by k_is) (by decide +kernel) (by k_is) (RL.xiy_cons KX G xT_Apart (by k_is) (by decide +kernel) (by k_is) (RL.xiy_cons KX G xT_Breaks (by k_is) (by decide +kernel) (by k_is) (RL.xiy_cons KX G xT_UnknownName (by k_is) (by decide +kernel) (by k_is) (RL.xiy_cons KX G xT_UnknownCell (by k_is) (by decide +kernel) (by k_is) (RL.xiy_cons KX G xT_NothingLeft (by k_is) (by decide +kernel) (by k_is) RL.xiy_nil)))))))))))))))))))))))))))))))))))))))))))))))))))))))))))),
      f__law_cells := RL.ftx_mk KX G (by k_is) (by k_is) (by k_is) (by k_is) (fun _ _ _ _ _ _ us hl => match us, hl with | [_], _ => rfl),
      f__law_draw := RL.ftx_mk KX G (by k_is) (by k_is) (by k_is) (by k_is) (fun _ _ _ _ _ _ us hl => match us, hl with | [_, _], _ => rfl),
      f__law_one := RL.ftx_mk KX G (by k_is) (by k_is) (by k_is) (by k_is) (fun _ _ _ _ _ _ us hl => match us, hl with | [_, _], _ => rfl),
      f__law_same := RL.ftx_mk KX G (by k_is) (by k_is) (by k_is) (by k_is) (fun _ _ _ _ _ _ us hl => match us, hl with | [_, _], _ => rfl),
      f__law_extra := RL.ftx_mk KX G (by k_is) (by k_is) (by k_is) (by k_is) (fun _ _ _ _ _ _ us hl => match us, hl with | [_], _ => rfl),
      f__law_made_errors := RL.ftx_mk KX G (by k_is) (by k_is) (by k_is) (by k_is) (fun _ _ _ _ _ _ us hl => match us, hl with | [_, _], _ => rfl),
      f__law_named_errors := RL.ftx_mk KX G (by k_is) (by k_is) (by k_is) (by k_is) (fun _ _ _ _ _ _ us hl => match us, hl with | [_, _], _ => rfl),
      f_law := RL.ftx_mk KX G (by k_is) (by k_is) (by k_is) (by k_is) (fun _ _ _ _ _ _ us hl => match us, hl with | [_], _ => rfl)
    }
    exact ⟨T.f_law, fun base => Dk01.all_ok T ⟨by decide +kernel, by decide +kernel⟩⟩

