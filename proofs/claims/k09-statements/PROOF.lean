import PyProof.Rows.All
import Wide.All
import OpenK.AllK
import Wide.FinOn
import HandS.ForMost
import HandS.ForExc
import HandS.IsInst
import HandS.TupAny
import HandS.Deep
import HandS.Walk
import HandS.Wide
import HandS.ExcInit
import HandS.Lambda
import KE.KDflt
import HandS.Style
import HandS.Zip
import HandS.Codes
import HandS.SetFor
import HandS.Strs
import HandS.TupSets
import HandS.SortInts
import HandS.More
import HandS.FStr
import HandS.Star
import HandS.ClsMeth
import KE.KOpsOwn
import KE.KCallOwn
import OpenK.KOps
import HandS.SetTxt0
import KE.KFmtOwn
import HandS.ExcField
import HandS.ExcIs
import KE.KExcSuper
import KE.KExcInit
import KE.KExcIs
import HandS.HotCalls
import KE.KTryMore
import HandS.EndTab
import KE.KNestM
import HandS.StrMore
import HandS.Property
import HandS.DictComp
import PySem.Challenge.RW_unseenmap_k09_statements
set_option Elab.async false
set_option linter.all false
section
set_option maxRecDepth 100000
set_option maxHeartbeats 2000000
/-! A layer of our own over the hand layer: values as trees (W), a store of mutable objects, expressions and statements as functions over them. -/
namespace RL
open PySem PySem.Spec L2
/-! ### values, objects, results -/
inductive W where
  | non | bl (b : Bool) | int (i : Int) | str (x : Str)
  | ty (n : String)
  | gl (x : Str)
  | ref (l : Nat)
  | tup (ws : List W)
  | lst (ws : List W)
  | flst (ws : List W)
  | dic (ks : List Key) (ws : List W)
  | ins (c : Str) (ns : List Str) (ws : List W)
  | exn (c : Str) (ns : List Str) (ws : List W)
  | lam (j : Nat)
  | clo (j : Nat) (ws : List W)
  deriving Inhabited
inductive Ob where
  | lst (ws : List W)
  | dic (ks : List Key) (ws : List W)
  | ins (c : Str) (ns : List Str) (ws : List W)
  | tab (x : Str)
  deriving Inhabited
noncomputable abbrev Store := List Ob
noncomputable abbrev Env' := List (Option W)
inductive Res (α : Type) where
  | ok (a : α) (S : Store)
  | exc (c : Str) (ns : List Str) (ws : List W) (S : Store)
  | bad
noncomputable def Res.bind {α β : Type} (r : Res α) (k : α → Store → Res β) : Res β := match r with
  | .ok a S => k a S
  | .exc c ns ws S => .exc c ns ws S
  | .bad => .bad
/-- what runs in a frame -/
noncomputable abbrev SM (α : Type) := Env' → Store → Res α
/-! ### how they lie in a heap -/
noncomputable def KList (K : PySem.W.Frag) (a : Addr) (xs : List V) : Prop :=
  ∃ (o : Obj) (its : Array Value) (n : Nat), K.lookup a = some o ∧ o.cls = .type "list" ∧ o.dict = none ∧ o.data = .seq its n ∧ its.size ≤ sizeLine ∧ Vals xs its.toList
noncomputable def KTup (K : PySem.W.Frag) (a : Addr) (xs : List V) : Prop :=
  ∃ (o : Obj) (its : Array Value) (n : Nat), K.lookup a = some o ∧ o.cls = .type "tuple" ∧ o.data = .seq its n ∧ its.size ≤ sizeLine ∧ Vals xs its.toList
/-- where the store's objects lie (r); what else is in flux: the lists of the comprehensions around (t) -/
structure RT where
  r : List Addr
  t : List Addr
  ce : Str → Option Addr
/-- what is wanted of exceptions; the cells of the def that makes lambdas -/
structure EK where
  e : XK
  ce : Str → Option Addr
noncomputable instance : Coe EK XK := ⟨EK.e⟩
noncomputable instance : CoeFun EK (fun _ => Value → Option Addr → Hp → Prop) := ⟨EK.e⟩
/-- nothing raised, no lambda made -/
noncomputable def EN : EK := ⟨fun _ _ _ => False, fun _ => none⟩
/-- a lambda's text: its full name, its parameters, its body, its scope, the defaults (ints) -/
structure Lm where
  q : Str
  ps : Arguments
  b : Expr
  sc : Scope
  ds : List Int
  deriving Inhabited
class Lams where
  at_ : Nat → Lm
/-- a text without lambdas -/
noncomputable instance (priority := low) noLams : Lams := ⟨fun _ => default⟩
/-- the names that a scope takes from outside -/
noncomputable def frees (sc : Scope) : List Str := (sc.names.filter fun y => decide (y.2 = .free)).map (·.1)
/-- a lambda's function object -/
noncomputable def LamO (f : Addr) (L : Lm) (clo : List (Str × Addr)) (dV : Value) (c' : Addr) : HO := .ext fun h => ∃ doc pm ctv, h.get? f = some (PySem.W.kdv_obj "<lambda>" L.q L.ps (.expr L.b) L.sc clo dV doc pm c' ctv)
/-- an object just as it stands -/
noncomputable abbrev PinO (c : Addr) (o : Obj) : HO := .frz o (.own c)
/-- an exception's object, made or raised -/
noncomputable def exw (a C : Addr) (d : Option Addr) : HO := .ext fun h => ∃ oe vs, h.get? a = some oe ∧ oe.cls = .ref C ∧ oe.dict = d ∧ oe.data = .fields vs
theorem exw_ok {P : Program} {w : World} {H : Hp} {h : Heap} {a C : Addr} {d : Option Addr} {oe : Obj} {vs : Array Value} (e : h.get? a = some oe) (c : oe.cls = .ref C) (dd : oe.dict = d) (f : oe.data = .fields vs) : ObjOk P w H h a (exw a C d) :=
  ⟨⟨oe, vs, e, c, dd, f⟩, ⟨oe, e⟩, fun h1 h2 ⟨o, v, q, r⟩ k => ⟨o, v, k o q, r⟩⟩
theorem pinO_ok {P : Program} {w : World} {H : Hp} {h : Heap} {a : Addr} {o : Obj} (e : h.get? a = some o) : ObjOk P w H h a (PinO a o) := ⟨e, o, e⟩
/-- a def of the module, its code's table of code objects at a -/
noncomputable def TabOf (K : PySem.W.Frag) (mg : Str → Option Value) (x : Str) (a : Addr) : Prop := ∃ f c oc od fd osl, mg x = some (.ref f) ∧ K.lookup f = some ⟨oc, od, .func fd, osl⟩ ∧ fd.code = .ref c ∧ ∀ base : Heap, K.In base → PySem.W.CodeHd base c a
/-- tracked, and no mutable object of the store -/
noncomputable def Fx (ρ : RT) (H : Hp) (a : Addr) (o : HO) : Prop := H a = some o ∧ a ∉ ρ.r ∧ a ∉ ρ.t
/-- a lambda's defaults -/
noncomputable def DvOk (ρ : RT) (H : Hp) (ds : List Int) (dV : Value) : Prop := (ds = [] ∧ dV = .none) ∨ ∃ t, dV = .ref t ∧ ds ≠ [] ∧ Fx ρ H t (.tup (ds.map V.int))
variable [Lams]
open Lams
section
variable (K : PySem.W.Frag) (mg : Str → Option Value) (ρ : RT) (H : Hp)
mutual
inductive RW : W → V → Prop where
  | non : RW .non .non
  | bl (b : Bool) : RW (.bl b) (.bl b)
  | int (i : Int) : RW (.int i) (.int i)
  | str (x : Str) : RW (.str x) (.str x)
  | ty (n : String) : RW (.ty n) (.ty n)
  | gl {x : Str} {a : Addr} (h : mg x = some (.ref a)) : RW (.gl x) (.ref a)
  | ref {l : Nat} {a : Addr} (h : ρ.r[l]? = some a) : RW (.ref l) (.ref a)
  | tup {a : Addr} {vs : List V} {ws : List W} (h : Fx ρ H a (.tup vs) ∨ KTup K a vs) (r : RWs ws vs) : RW (.tup ws) (.ref a)
  | lst {a : Addr} {vs : List V} {ws : List W} (h : Fx ρ H a (.lst vs)) (r : RWs ws vs) : RW (.lst ws) (.ref a)
  | flst {a : Addr} {vs : List V} {ws : List W} (h : (∃ o, Fx ρ H a (.frz o (.lst vs))) ∨ KList K a vs) (r : RWs ws vs) : RW (.flst ws) (.ref a)
  | dic {a : Addr} {ks : List Key} {ws : List W} {vs : List V} (h : Fx ρ H a (.dK (ks.zip vs))) (hl : ks.length = vs.length) (r : RWs ws vs) : RW (.dic ks ws) (.ref a)
  | ins {a C dx : Addr} {c : Str} {ns : List Str} {ws : List W} {vs : List V} (hc : mg c = some (.ref C)) (h : Fx ρ H a (.ins C dx (ns.zip vs))) (hl : ns.length = vs.length) (r : RWs ws vs) : RW (.ins c ns ws) (.ref a)
  | exn {a C dx : Addr} {c : Str} {ns : List Str} {ws : List W} {vs : List V} (hc : mg c = some (.ref C)) (h : Fx ρ H a (exw a C (some dx))) (hd : Fx ρ H dx (.xd (ns.zip vs))) (hl : ns.length = vs.length) (r : RWs ws vs) : RW (.exn c ns ws) (.ref a)
  | lam {j : Nat} {f c' : Addr} {clo : List (Str × Addr)} {dV : Value} (hf : Fx ρ H f (LamO f (at_ j) clo dV c')) (hc : Fx ρ H c' (LamX.CodeO c' (at_ j).q)) (hd : DvOk ρ H (at_ j).ds dV) (he : ∀ y ∈ frees (at_ j).sc, ∃ c, clo.lookup y = some c ∧ ρ.ce y = some c) (hk : ∀ y c, clo.lookup y = some c → y ∈ frees (at_ j).sc) : RW (.lam j) (.ref f)
  | clo {j : Nat} {f c' : Addr} {clo : List (Str × Addr)} {dV : Value} {ws : List W} {vs : List V} (hf : Fx ρ H f (LamO f (at_ j) clo dV c')) (hc : Fx ρ H c' (LamX.CodeO c' (at_ j).q)) (hd : DvOk ρ H (at_ j).ds dV) (hl : vs.length = (frees (at_ j).sc).length)
      (he : ∀ (k : Nat) (y : Str), (frees (at_ j).sc)[k]? = some y → ∃ c v o u, clo.lookup y = some c ∧ vs[k]? = some v ∧ Fx ρ H c (PinO c o) ∧ o.data = .cell (some u) ∧ RelV v u)
      (hk : ∀ y c, clo.lookup y = some c → y ∈ frees (at_ j).sc) (hi : ∀ x y c, clo.lookup x = some c → clo.lookup y = some c → x = y) (r : RWs ws vs) : RW (.clo j ws) (.ref f)
inductive RWs : List W → List V → Prop where
  | nil : RWs [] []
  | cons {w : W} {v : V} {ws : List W} {vs : List V} (h : RW w v) (t : RWs ws vs) : RWs (w :: ws) (v :: vs)
end
inductive RO : Addr → Ob → Prop where
  | lst {a : Addr} {vs : List V} {ws : List W} (h : H a = some (.lst vs)) (r : RWs K mg ρ H ws vs) : RO a (.lst ws)
  | dic {a : Addr} {ks : List Key} {ws : List W} {vs : List V} (h : H a = some (.dK (ks.zip vs))) (hl : ks.length = vs.length) (r : RWs K mg ρ H ws vs) : RO a (.dic ks ws)
  | ins {a C dx : Addr} {c : Str} {ns : List Str} {ws : List W} {vs : List V} (hc : mg c = some (.ref C)) (h : H a = some (.ins C dx (ns.zip vs))) (hl : ns.length = vs.length) (r : RWs K mg ρ H ws vs) : RO a (.ins c ns ws)
  | tab {a : Addr} {x : Str} {ps : Array Value} (ht : TabOf K mg x a) (h : H a = some (.tbl ps)) (hk : TriplesOk ps.toList) (hco : ∀ (pos : Pos) (cv : Value), codeAmong pos ps.toList = some cv → ∃ c, cv = .ref c ∧ Fx ρ H c (LamX.CodeO c (x ++ ".<locals>." ++ "<lambda>"))) : RO a (.tab x)
structure RepS (S : Store) : Prop where
  len : ρ.r.length = S.length
  nd : ρ.r.Nodup
  ob : ∀ (l : Nat) (o : Ob), S[l]? = some o → ∃ a, ρ.r[l]? = some a ∧ RO K mg ρ H a o
  tk : ∀ a, a ∈ ρ.t → H a ≠ none ∧ a ∉ ρ.r
  tp : ∀ a, a ∈ ρ.t → ∀ c u, H a ≠ some (PinO c u)
structure REnv (E : EK) (s : Env') (σ : St) : Prop where
  ce : ∀ y c, E.ce y = some c → ρ.ce y = some c
  len : s.length = σ.length
  look : ∀ (i : Nat) (w : W), s[i]? = some (some w) → ∃ v, σ[i]? = some (some v) ∧ RW K mg ρ H w v
end
/-- later: the store has grown, what is no object of the store stands as it stood -/
structure Ext (ρ : RT) (H : Hp) (ρ' : RT) (H' : Hp) : Prop where
  pre : ∀ (l : Nat) a, ρ.r[l]? = some a → ρ'.r[l]? = some a
  sub : ∀ b, b ∈ ρ.t → b ∈ ρ'.t
  newt : ∀ b, b ∈ ρ'.t → b ∈ ρ.t ∨ H b = none
  keep : ∀ b o, H b = some o → b ∉ ρ.r → H' b = some o
  new : ∀ b, b ∈ ρ'.r → b ∈ ρ.r ∨ H b = none
  still : ∀ b, b ∈ ρ.r → H b ≠ none → H' b ≠ none
  ce : ρ'.ce = ρ.ce
theorem Ext.refl (ρ : RT) (H : Hp) : Ext ρ H ρ H := ⟨fun _ _ h => h, fun _ h => h, fun _ h => .inl h, fun _ _ h _ => h, fun _ h => .inl h, fun _ _ h => h, rfl⟩
theorem Ext.not {ρ ρ' : RT} {H H' : Hp} (e : Ext ρ H ρ' H') {a : Addr} {o : HO} (h : H a = some o) (n : a ∉ ρ.r) : a ∉ ρ'.r := fun m => by
  rcases e.new a m with z | z
  · exact n z
  · rw [h] at z; cases z
theorem Ext.trans {ρ ρ1 ρ2 : RT} {H H1 H2 : Hp} (a : Ext ρ H ρ1 H1) (b : Ext ρ1 H1 ρ2 H2) : Ext ρ H ρ2 H2 where
  pre := fun l x h => b.pre l x (a.pre l x h)
  sub := fun x m => b.sub x (a.sub x m)
  newt := fun x m => by
    rcases b.newt x m with z | z
    · exact a.newt x z
    · cases q : H x with
      | none => exact .inr rfl
      | some o =>
        by_cases hx : x ∈ ρ.r
        · exact absurd z (a.still x hx (by rw [q]; simp))
        · rw [a.keep x o q hx] at z; cases z
  keep := fun x o h n => b.keep x o (a.keep x o h n) (a.not h n)
  new := fun x m => by
    rcases b.new x m with z | z
    · exact a.new x z
    · by_cases hx : x ∈ ρ.r
      · exact .inl hx
      · cases q : H x with
        | none => exact .inr rfl
        | some o => rw [a.keep x o q hx] at z; cases z
  still := fun x m h => by
    have m1 : x ∈ ρ1.r := by
      obtain ⟨i, hi⟩ := List.mem_iff_getElem?.mp m
      exact List.mem_iff_getElem?.mpr ⟨i, a.pre i x hi⟩
    exact b.still x m1 (a.still x m h)
  ce := b.ce.trans a.ce
theorem Fx.ext {ρ ρ' : RT} {H H' : Hp} {a : Addr} {o : HO} (h : Fx ρ H a o) (e : Ext ρ H ρ' H') : Fx ρ' H' a o := ⟨e.keep _ _ h.1 h.2.1, e.not h.1 h.2.1, fun m => (e.newt a m).elim h.2.2 fun z => by rw [h.1] at z; cases z⟩
theorem DvOk.ext {ρ ρ' : RT} {H H' : Hp} {ds : List Int} {dV : Value} (h : DvOk ρ H ds dV) (e : Ext ρ H ρ' H') : DvOk ρ' H' ds dV := h.imp id fun ⟨t, a, b, c⟩ => ⟨t, a, b, c.ext e⟩
section
variable {K : PySem.W.Frag} {mg : Str → Option Value} {ρ ρ' : RT} {H H' : Hp}
mutual
theorem RW.ext (e : Ext ρ H ρ' H') : ∀ {w : W} {v : V}, RW K mg ρ H w v → RW K mg ρ' H' w v
  | _, _, .non => .non
  | _, _, .bl b => .bl b
  | _, _, .int b => .int b
  | _, _, .str b => .str b
  | _, _, .ty b => .ty b
  | _, _, .gl h => .gl h
  | _, _, .ref h => .ref (e.pre _ _ h)
  | _, _, .tup h r => .tup (h.imp (fun z => z.ext e) id) (RWs.ext e r)
  | _, _, .lst h r => .lst (h.ext e) (RWs.ext e r)
  | _, _, .flst h r => .flst (h.imp (fun ⟨o, z⟩ => ⟨o, z.ext e⟩) id) (RWs.ext e r)
  | _, _, .dic h hl r => .dic (h.ext e) hl (RWs.ext e r)
  | _, _, .ins hc h hl r => .ins hc (h.ext e) hl (RWs.ext e r)
  | _, _, .exn hc h hd hl r => .exn hc (h.ext e) (hd.ext e) hl (RWs.ext e r)
  | _, _, .lam hf hc hd he hk => .lam (hf.ext e) (hc.ext e) (hd.ext e) (fun y m => let ⟨c, h1, h2⟩ := he y m; ⟨c, h1, by rw [e.ce]; exact h2⟩) hk
  | _, _, .clo hf hc hd hl he hk hi r => .clo (hf.ext e) (hc.ext e) (hd.ext e) hl (fun k y m => let ⟨c, v, o, u, h1, h2, h3, h4⟩ := he k y m; ⟨c, v, o, u, h1, h2, h3.ext e, h4⟩) hk hi (RWs.ext e r)
theorem RWs.ext (e : Ext ρ H ρ' H') : ∀ {ws : List W} {vs : List V}, RWs K mg ρ H ws vs → RWs K mg ρ' H' ws vs
  | _, _, .nil => .nil
  | _, _, .cons h t => .cons (RW.ext e h) (RWs.ext e t)
end
theorem RWs.length : ∀ {ws : List W} {vs : List V}, RWs K mg ρ H ws vs → ws.length = vs.length
  | _, _, .nil => rfl
  | _, _, .cons _ t => by rw [List.length_cons, List.length_cons, t.length]
theorem RWs.get : ∀ {ws : List W} {vs : List V} {i : Nat} {w : W}, RWs K mg ρ H ws vs → ws[i]? = some w → ∃ v, vs[i]? = some v ∧ RW K mg ρ H w v
  | _, _, _, _, .nil, h => by simp at h
  | _, _, 0, _, .cons r _, h => by simp at h; subst h; exact ⟨_, rfl, r⟩
  | _, _, i + 1, _, .cons _ t, h => by
    obtain ⟨v, h1, h2⟩ := t.get (i := i) (by simpa using h)
    exact ⟨v, by simpa using h1, h2⟩
theorem RWs.append : ∀ {ws ws' : List W} {vs vs' : List V}, RWs K mg ρ H ws vs → RWs K mg ρ H ws' vs' → RWs K mg ρ H (ws ++ ws') (vs ++ vs')
  | _, _, _, _, .nil, h => h
  | _, _, _, _, .cons r t, h => .cons r (t.append h)
theorem RWs.take : ∀ {ws : List W} {vs : List V} (n : Nat), RWs K mg ρ H ws vs → RWs K mg ρ H (ws.take n) (vs.take n)
  | _, _, 0, _ => .nil
  | _, _, _ + 1, .nil => .nil
  | _, _, n + 1, .cons r t => .cons r (t.take n)
theorem RWs.drop : ∀ {ws : List W} {vs : List V} (n : Nat), RWs K mg ρ H ws vs → RWs K mg ρ H (ws.drop n) (vs.drop n)
  | _, _, 0, r => r
  | _, _, _ + 1, .nil => .nil
  | _, _, n + 1, .cons _ t => t.drop n
theorem RWs.set {w : W} {v : V} (r : RW K mg ρ H w v) : ∀ {ws : List W} {vs : List V} (i : Nat), RWs K mg ρ H ws vs → RWs K mg ρ H (ws.set i w) (vs.set i v)
  | _, _, _, .nil => .nil
  | _, _, 0, .cons _ t => .cons r t
  | _, _, i + 1, .cons q t => .cons q (t.set r i)
theorem RWs.one {w : W} {vs : List V} (r : RWs K mg ρ H [w] vs) : ∃ v, vs = [v] ∧ RW K mg ρ H w v := by
  cases r with | cons h t => cases t; exact ⟨_, rfl, h⟩
theorem RWs.two {w w' : W} {vs : List V} (r : RWs K mg ρ H [w, w'] vs) : ∃ v v', vs = [v, v'] ∧ RW K mg ρ H w v ∧ RW K mg ρ H w' v' := by
  cases r with | cons h t => obtain ⟨v', rfl, h'⟩ := t.one; exact ⟨_, _, rfl, h, h'⟩
theorem RO.ext (e : Ext ρ H ρ' H') {a : Addr} {o : Ob} (hs : H' a = H a) (h : RO K mg ρ H a o) : RO K mg ρ' H' a o := by
  cases h with
  | lst h r => exact .lst (hs.trans h) (r.ext e)
  | dic h hl r => exact .dic (hs.trans h) hl (r.ext e)
  | ins hc h hl r => exact .ins hc (hs.trans h) hl (r.ext e)
  | tab ht h hk hco => exact .tab ht (hs.trans h) hk fun pos cv q => let ⟨c, h1, h2⟩ := hco pos cv q; ⟨c, h1, h2.ext e⟩
theorem RO.there {a : Addr} {o : Ob} (h : RO K mg ρ H a o) : ∃ u, H a = some u := by
  cases h with
  | lst h r => exact ⟨_, h⟩
  | dic h hl r => exact ⟨_, h⟩
  | ins hc h hl r => exact ⟨_, h⟩
  | tab ht h hk hco => exact ⟨_, h⟩
theorem RepS.mem {S : Store} (R : RepS K mg ρ H S) {a : Addr} (h : a ∈ ρ.r) : ∃ u, H a = some u := by
  obtain ⟨i, hi⟩ := List.mem_iff_getElem?.mp h
  have hl : i < ρ.r.length := (List.getElem?_eq_some_iff.mp hi).1
  have hs : i < S.length := by rw [← R.len]; exact hl
  obtain ⟨a', h1, h2⟩ := R.ob i S[i] (List.getElem?_eq_getElem hs)
  rw [hi] at h1; cases h1
  exact h2.there
theorem RepS.fresh {S : Store} (R : RepS K mg ρ H S) {p : Addr} (h : H p = none) : p ∉ ρ.r ∧ p ∉ ρ.t := by
  refine ⟨fun m => ?_, fun m => (R.tk p m).1 h⟩
  obtain ⟨u, e⟩ := R.mem m
  rw [h] at e; cases e
/-- a new tree's root -/
theorem RepS.tree {S : Store} (R : RepS K mg ρ H S) {p : Addr} (h : H p = none) (o : HO) : Ext ρ H ρ (upd H p o) ∧ RepS K mg ρ (upd H p o) S := by
  have e : Ext ρ H ρ (upd H p o) := ⟨fun _ _ h => h, fun _ h => h, fun _ h => .inl h, fun b u hb _ => by rw [upd_ne (ne_of_none hb h)]; exact hb, fun _ h => .inl h, fun b m hb => by
    have n : b ≠ p := fun z => (R.fresh h).1 (z ▸ m)
    rw [upd_ne n]; exact hb, rfl⟩
  refine ⟨e, R.len, R.nd, fun l ob hl => ?_, fun a m => ⟨?_, (R.tk a m).2⟩, fun a m c u => by rw [upd_ne (fun z : a = p => (R.fresh h).2 (z ▸ m))]; exact R.tp a m c u⟩
  · obtain ⟨a, h1, h2⟩ := R.ob l ob hl
    refine ⟨a, h1, h2.ext e (upd_ne fun z => ?_)⟩
    exact (R.fresh h).1 (z ▸ List.mem_of_getElem? h1)
  · rw [upd_ne (fun z : a = p => (R.fresh h).2 (z ▸ m))]; exact (R.tk a m).1
theorem fx_new {S : Store} (R : RepS K mg ρ H S) {p : Addr} (h : H p = none) (o : HO) : Fx ρ (upd H p o) p o := ⟨upd_same, R.fresh h⟩
/-- one object more -/
noncomputable def RT.snoc (ρ : RT) (p : Addr) : RT := ⟨ρ.r ++ [p], ρ.t, ρ.ce⟩
theorem ext_push {S : Store} (R : RepS K mg ρ H S) {p : Addr} (h : H p = none) (o : HO) : Ext ρ H (ρ.snoc p) (upd H p o) := by
  have np := (R.fresh h).1
  exact ⟨fun l a hl => by show (ρ.r ++ [p])[l]? = some a; rw [List.getElem?_append_left (List.getElem?_eq_some_iff.mp hl).1]; exact hl, fun _ h => h, fun _ h => .inl h, fun b u hb _ => by rw [upd_ne (ne_of_none hb h)]; exact hb, fun b m => by
    rcases List.mem_append.mp (show b ∈ ρ.r ++ [p] from m) with z | z
    · exact .inl z
    · have : b = p := by simpa using z
      exact .inr (this ▸ h), fun b m hb => by
    have n : b ≠ p := fun z => np (z ▸ m)
    rw [upd_ne n]; exact hb, rfl⟩
/-- a new object of the store -/
theorem RepS.push {S : Store} (R : RepS K mg ρ H S) {p : Addr} (h : H p = none) {o : HO} {u : Ob} (ho : RO K mg (ρ.snoc p) (upd H p o) p u) : Ext ρ H (ρ.snoc p) (upd H p o) ∧ RepS K mg (ρ.snoc p) (upd H p o) (S ++ [u]) := by
  have np := (R.fresh h).1
  have e := ext_push R h o
  refine ⟨e, by show (ρ.r ++ [p]).length = _; rw [List.length_append, List.length_append, R.len]; rfl, ?_, fun l ob hl => ?_, fun a m => ⟨?_, fun z => ?_⟩, fun a m c u => by rw [upd_ne (fun z : a = p => (R.fresh h).2 (z ▸ m))]; exact R.tp a m c u⟩
  · refine List.nodup_append.mpr ⟨R.nd, by simp, fun a ha b hb z => ?_⟩
    have q : b = p := by simpa using hb
    exact np (by rw [← q, ← z]; exact ha)
  · by_cases hlt : l < S.length
    · rw [List.getElem?_append_left hlt] at hl
      obtain ⟨a, h1, h2⟩ := R.ob l ob hl
      exact ⟨a, e.pre _ _ h1, h2.ext e (upd_ne fun z => np (z ▸ List.mem_of_getElem? h1))⟩
    · have hl' : l = S.length := by
        have z := (List.getElem?_eq_some_iff.mp hl).1
        rw [List.length_append, List.length_singleton] at z
        omega
      subst hl'
      rw [List.getElem?_append_right (Nat.le_refl _), Nat.sub_self] at hl
      cases (show some u = some ob from hl)
      exact ⟨p, by show (ρ.r ++ [p])[S.length]? = _; rw [← R.len, List.getElem?_append_right (Nat.le_refl _), Nat.sub_self]; rfl, ho⟩
  · rw [upd_ne (fun z : a = p => (R.fresh h).2 (z ▸ m))]; exact (R.tk a m).1
  · rcases List.mem_append.mp (show a ∈ ρ.r ++ [p] from z) with z | z
    · exact (R.tk a m).2 z
    · have : a = p := by simpa using z
      exact (R.fresh h).2 (this ▸ m)
/-- an object of the store is changed -/
theorem RepS.wr {S : Store} (R : RepS K mg ρ H S) {l : Nat} {a : Addr} (hl : ρ.r[l]? = some a) {o : HO} {u : Ob} (ho : RO K mg ρ (upd H a o) a u) : Ext ρ H ρ (upd H a o) ∧ RepS K mg ρ (upd H a o) (S.set l u) := by
  have ma : a ∈ ρ.r := List.mem_of_getElem? hl
  have e : Ext ρ H ρ (upd H a o) := ⟨fun _ _ h => h, fun _ h => h, fun _ h => .inl h, fun b u hb n => by rw [upd_ne fun z : b = a => n (by rw [z]; exact ma)]; exact hb, fun _ h => .inl h, fun b _ hb => by
    by_cases hz : b = a
    · subst hz; rw [upd_same]; simp
    · rw [upd_ne hz]; exact hb, rfl⟩
  refine ⟨e, by rw [List.length_set]; exact R.len, R.nd, fun k ob hk => ?_, fun b m => ⟨?_, (R.tk b m).2⟩, fun b m c u => by rw [upd_ne (fun z : b = a => (R.tk b m).2 (by rw [z]; exact ma))]; exact R.tp b m c u⟩
  · by_cases hkl : l = k
    · subst hkl
      have hs : l < S.length := by rw [← R.len]; exact (List.getElem?_eq_some_iff.mp hl).1
      rw [List.getElem?_set_self hs] at hk
      cases hk
      exact ⟨a, hl, ho⟩
    · rw [List.getElem?_set_ne hkl] at hk
      obtain ⟨b, h1, h2⟩ := R.ob k ob hk
      refine ⟨b, h1, h2.ext e (upd_ne fun z => hkl ?_)⟩
      subst z
      obtain ⟨i1, e1⟩ := List.getElem?_eq_some_iff.mp hl
      obtain ⟨i2, e2⟩ := List.getElem?_eq_some_iff.mp h1
      exact (List.getElem_inj R.nd).mp (e1.trans e2.symm)
  · rw [upd_ne (fun z : b = a => (R.tk b m).2 (by rw [z]; exact ma))]; exact (R.tk b m).1
theorem REnv.ext {E : EK} {s : Env'} {σ : St} (e : Ext ρ H ρ' H') (h : REnv K mg ρ H E s σ) : REnv K mg ρ' H' E s σ := ⟨fun y c q => by rw [e.ce]; exact h.ce y c q, h.len, fun i w hw => let ⟨v, h1, h2⟩ := h.look i w hw; ⟨v, h1, h2.ext e⟩⟩
theorem REnv.set {E : EK} {s : Env'} {σ : St} {w : W} {v : V} (h : REnv K mg ρ H E s σ) (i : Nat) (r : RW K mg ρ H w v) : REnv K mg ρ H E (s.set i (some w)) (σ.set i (some v)) := by
  refine ⟨h.ce, by rw [List.length_set, List.length_set]; exact h.len, fun j u hj => ?_⟩
  by_cases hij : i = j
  · subst hij
    by_cases hi : i < s.length
    · rw [List.getElem?_set_self hi] at hj
      cases hj
      exact ⟨v, List.getElem?_set_self (by rw [← h.len]; exact hi), r⟩
    · rw [List.getElem?_eq_none (by rw [List.length_set]; omega)] at hj; cases hj
  · rw [List.getElem?_set_ne hij] at hj
    obtain ⟨v', h1, h2⟩ := h.look j u hj
    exact ⟨v', by rw [List.getElem?_set_ne hij]; exact h1, h2⟩
end
/-! ### what is wanted of a result -/
noncomputable abbrev Rl (β : Type) (α : Type) := RT → Hp → α → β → Prop
section
variable (K : PySem.W.Frag) (mg : Str → Option Value)
noncomputable def ExcOut (E : XK) (ρ : RT) (H : Hp) (c : Str) (ns : List Str) (ws : List W) (S : Store) : Prop :=
  ∀ ρ' H' C d vs, Ext ρ H ρ' H' → RepS K mg ρ' H' S → mg c = some (.ref C) → Fx ρ' H' d (.xd (ns.zip vs)) → ns.length = vs.length → RWs K mg ρ' H' ws vs → E (.ref C) (some d) H'
noncomputable def Out {α β : Type} (R : Rl β α) (E : XK) (ρ : RT) (H : Hp) (r : Res α) (Q : β → Hp → Prop) : Prop := match r with
  | .ok w S => ∀ ρ' H' v, Ext ρ H ρ' H' → RepS K mg ρ' H' S → R ρ' H' w v → Q v H'
  | .exc c ns ws S => ExcOut K mg E ρ H c ns ws S
  | .bad => False
/-- a reading: some store and environment stand for the heap and the slots, and the result is what is wanted -/
noncomputable def tX {α β : Type} (R : Rl β α) (E : EK) (m : SM α) : St → Hp → (β → Hp → Prop) → Prop := fun σ H Q =>
  ∃ ρ s S, RepS K mg ρ H S ∧ REnv K mg ρ H E s σ ∧ Out K mg R E ρ H (m s S) Q
end
section
variable {K : PySem.W.Frag} {mg : Str → Option Value} {ρ ρ' : RT} {H H' : Hp} {α β γ δ : Type} {E : XK}
theorem ExcOut.ext {c : Str} {ns : List Str} {ws : List W} {S : Store} (e : Ext ρ H ρ' H') (h : ExcOut K mg E ρ H c ns ws S) : ExcOut K mg E ρ' H' c ns ws S := fun ρ2 H2 C d vs x => h ρ2 H2 C d vs (e.trans x)
theorem Out.ext {R : Rl β α} {r : Res α} {Q : β → Hp → Prop} (e : Ext ρ H ρ' H') (h : Out K mg R E ρ H r Q) : Out K mg R E ρ' H' r Q := by
  cases r with
  | ok w S => exact fun ρ2 H2 v x => h ρ2 H2 v (e.trans x)
  | exc c ns ws S => exact ExcOut.ext e h
  | bad => exact h
theorem Out.here {R : Rl β α} {w : α} {S : Store} {Q : β → Hp → Prop} {v : β} (h : Out K mg R E ρ H (.ok w S) Q) (rep : RepS K mg ρ H S) (r : R ρ H w v) : Q v H := h ρ H v (Ext.refl _ _) rep r
theorem Out.bind {R : Rl β α} {R' : Rl δ γ} {r : Res α} {k : α → Store → Res γ} {Q : δ → Hp → Prop} {Z : β → Hp → Prop} (h : Out K mg R' E ρ H (r.bind k) Q)
    (f : ∀ ρ1 H1 a b S1, Ext ρ H ρ1 H1 → RepS K mg ρ1 H1 S1 → R ρ1 H1 a b → Out K mg R' E ρ1 H1 (k a S1) Q → Z b H1) : Out K mg R E ρ H r Z := by
  cases r with
  | ok w S => exact fun ρ1 H1 v e rep rw => f ρ1 H1 w v S e rep rw (Out.ext e h)
  | exc c ns ws S => exact h
  | bad => exact h
/-- first m, then k -/
theorem tX.bind {E : EK} {R : Rl β α} {R' : Rl δ γ} {m : SM α} {k : α → SM γ} {σ : St} {Q : δ → Hp → Prop} {Z : β → Hp → Prop} (h : tX K mg R' E (fun s S => (m s S).bind fun a => k a s) σ H Q)
    (f : ∀ ρ1 H1 a b s S1, RepS K mg ρ1 H1 S1 → REnv K mg ρ1 H1 E s σ → R ρ1 H1 a b → Out K mg R' E ρ1 H1 (k a s S1) Q → Z b H1) : tX K mg R E m σ H Z := by
  obtain ⟨ρ, s, S, rep, env, o⟩ := h
  exact ⟨ρ, s, S, rep, env, Out.bind o fun ρ1 H1 a b S1 e rep1 r o1 => f ρ1 H1 a b s S1 rep1 (env.ext e) r o1⟩
end
end RL
end
section
set_option maxRecDepth 100000
set_option maxHeartbeats 2000000
namespace RL
open PySem PySem.Spec L2
variable [Lams]
/-- the longest list, text -/
noncomputable abbrev lim : Nat := 16777216
theorem lim_line {n : Nat} (h : n ≤ lim) : n ≤ sizeLine := by rw [sizeLine_eq]; exact h
theorem lim_lt {n : Nat} (h : n < lim) : n < sizeLine := by rw [sizeLine_eq]; exact h
section
variable (X : Cx) (E : EK)
noncomputable abbrev tE (m : SM W) : TE := tX X.K X.mg (RW X.K X.mg) E m
noncomputable abbrev tT (m : SM Bool) : TT := tX X.K X.mg (fun _ _ a b => a = b) E m
noncomputable abbrev tA (m : SM (List W)) : TA := tX X.K X.mg (RWs X.K X.mg) E m
noncomputable def PM (e : Expr) (m : SM W) : Prop := PE X e (tE X E m)
noncomputable def PTM (e : Expr) (m : SM Bool) : Prop := PT X e (tT X E m)
noncomputable def PWM (e : Expr) (m : SM Bool) : Prop := PW X e (tT X E m)
noncomputable def PAM (es : List Expr) (m : SM (List W)) : Prop := PA X es (tA X E m)
end
theorem pe_imp {X : Cx} {e : Expr} {t t' : TE} (h : PE X e t) (f : ∀ σ H Q, t' σ H Q → t σ H Q) : PE X e t' := ⟨fun pins s σ H Q I q => h.run pins s σ H Q I (f σ H Q q)⟩
theorem pt_imp {X : Cx} {e : Expr} {t t' : TT} (h : PT X e t) (f : ∀ σ H Q, t' σ H Q → t σ H Q) : PT X e t' := ⟨fun pins s σ H Q I q => h.run pins s σ H Q I (f σ H Q q)⟩
theorem pw_imp {X : Cx} {e : Expr} {t t' : TT} (h : PW X e t) (f : ∀ σ H Q, t' σ H Q → t σ H Q) : PW X e t' := ⟨fun wh pins s σ H Q I q => h.run wh pins s σ H Q I (f σ H Q q)⟩
theorem pa_imp {X : Cx} {e : List Expr} {t t' : TA} (h : PA X e t) (f : ∀ σ H Q, t' σ H Q → t σ H Q) : PA X e t' := ⟨fun p pins s σ H Q I q => h.run p pins s σ H Q I (f σ H Q q)⟩
/-! ### names, constants -/
noncomputable def mVar (i : Nat) : SM W := fun s S => match s[i]? with
  | some (some w) => .ok w S
  | _ => .bad
noncomputable def mC (w : W) : SM W := fun _ S => .ok w S
section
variable {X : Cx} {E : EK} {pos : Pos}
theorem pm_var (i : Nat) {x : Str} (hN : X.N[i]? = some x := by rfl) (hv : Vis X.env.scope x := by first | exact Or.inl rfl | exact Or.inr (Or.inl rfl) | exact Or.inr (Or.inr rfl)) (hd : (x == ("__debug__" : Str)) = false := by decide +kernel)
    (hcd : (x == ("__classdict__" : Str)) = false := by decide +kernel) : PM X E (.Name x pos) (mVar i) := by
  refine pe_imp (pe_var hN hv hd hcd) fun σ H Q ⟨ρ, s, S, rep, env, o⟩ => ?_
  unfold mVar at o
  cases e : s[i]? with
  | none => rw [e] at o; exact o.elim
  | some q =>
    cases q with
    | none => rw [e] at o; exact o.elim
    | some w =>
      rw [e] at o
      obtain ⟨v, h1, h2⟩ := env.look i w e
      exact ⟨v, h1, Out.here o rep h2⟩
theorem tC_of {w : W} {v : V} (h : ∀ ρ H, RW X.K X.mg ρ H w v) : ∀ σ H Q, tE X E (mC w) σ H Q → tC v σ H Q := fun σ H Q ⟨ρ, s, S, rep, env, o⟩ => Out.here o rep (h ρ H)
theorem pm_int {i j} : PM X E (.Constant (.int i) j pos) (mC (.int i)) := pe_imp pe_int (tC_of fun _ _ => .int i)
theorem pm_bl {b j} : PM X E (.Constant (.bool b) j pos) (mC (.bl b)) := pe_imp pe_bl (tC_of fun _ _ => .bl b)
theorem pm_non {j} : PM X E (.Constant .none j pos) (mC .non) := pe_imp pe_non (tC_of fun _ _ => .non)
theorem pm_str {x j} : PM X E (.Constant (.str x) j pos) (mC (.str x)) := pe_imp pe_str (tC_of fun _ _ => .str x)
/-- a module's constant -/
noncomputable def KCon (K : PySem.W.Frag) (mg : Str → Option Value) (x : Str) (w : W) : Prop := ∃ u v, mg x = some u ∧ RelV v u ∧ ∀ ρ H, RW K mg ρ H w v
theorem pm_glob {x : Str} {w : W} (h : KCon X.K X.mg x w) (hg : Gl X x := by rfl) (hd : (x == ("__debug__" : Str)) = false := by decide +kernel) : PM X E (.Name x pos) (mC w) := by
  obtain ⟨u, v, hm, r, h⟩ := h
  exact pe_imp (pe_glob hg hm r hd) (tC_of h)
theorem pm_ty {x : Str} {n : String} (hm : X.mg x = none) (hv : bootBuiltins x = some (.type n) := by decide +kernel) (hg : Gl X x := by rfl) (hn : x ≠ "__name__" := by decide +kernel) (hd : (x == ("__debug__" : Str)) = false := by decide +kernel) : PM X E (.Name x pos) (mC (.ty n)) :=
  pe_imp (pe_bltn hg hm hv (v := .ty n) rfl hn hd) (tC_of fun _ _ => .ty n)
end
/-! ### operators -/
noncomputable def mBin (g : W → W → Store → Res W) (ma mb : SM W) : SM W := fun s S => (ma s S).bind fun x S1 => (mb s S1).bind fun y S2 => g x y S2
noncomputable def mUn (g : W → Store → Res W) (ma : SM W) : SM W := fun s S => (ma s S).bind g
noncomputable def R2M (X : Cx) (E : EK) (g : W → W → Store → Res W) : R2 := fun x y H Q => ∃ ρ S w1 w2, RepS X.K X.mg ρ H S ∧ RW X.K X.mg ρ H w1 x ∧ RW X.K X.mg ρ H w2 y ∧ Out X.K X.mg (RW X.K X.mg) E ρ H (g w1 w2 S) Q
noncomputable def OpM (X : Cx) (E : EK) (f : Value → Value → Sem Value) (g : W → W → Store → Res W) : Prop := OpR X f (R2M X E g)
theorem OpR.imp {X : Cx} {f : Value → Value → Sem Value} {r r' : R2} (h : OpR X f r) {x y : V} {H : Hp} {Q : VK} (hr : r' x y H Q → r x y H Q) : ∀ {pins : List (Addr × Obj)} {s : Shared} {σ : L2.St} {v u : Value}, Inv X pins σ H s → RelV x v → RelV y u → r' x y H Q → wpAny (model X.prog X.w) X.A (f v u) (EP X pins σ Q) X.xe s :=
  fun I rx ry q => h _ _ _ _ _ _ _ _ _ I rx ry (hr q)
section
variable {X : Cx} {E : EK} {pos : Pos} {a b c : Expr} {ma mb mc : SM W}
theorem t2_of {g : W → W → Store → Res W} {σ : L2.St} {H : Hp} {Q : VK} (h : tE X E (mBin g ma mb) σ H Q) : tOp (R2M X E g) (tE X E ma) (tE X E mb) σ H Q :=
  tX.bind h fun ρ1 H1 w1 x s S1 rep env r o => ⟨ρ1, s, S1, rep, env, Out.bind o fun ρ2 H2 w2 y S2 e rep2 r2 o2 => ⟨ρ2, S2, w1, w2, rep2, r.ext e, r2, o2⟩⟩
theorem pm_bin {op : Operator} {g : W → W → Store → Res W} (ho : OpM X E (binaryOp op) g) (ha : PM X E a ma) (hb : PM X E b mb) : PM X E (.BinOp a op b pos) (mBin g ma mb) := pe_imp (pe_op ho ha hb) fun _ _ _ h => t2_of h
theorem pm_cmp {op : CmpOp} {g : W → W → Store → Res W} (ho : OpM X E (compareOp op) g) (ha : PM X E a ma) (hb : PM X E b mb) (hm : behindInMarks op b = false := by first | exact nomark _ | rfl) : PM X E (.Compare a [op] [b] pos) (mBin g ma mb) := pe_imp (pe_cmpR ho ha hb hm) fun _ _ _ h => t2_of h
noncomputable def UnM (X : Cx) (E : EK) (f : Value → Sem Value) (g : W → Store → Res W) : Prop := UnR X f (fun x H Q => ∃ ρ S w, RepS X.K X.mg ρ H S ∧ RW X.K X.mg ρ H w x ∧ Out X.K X.mg (RW X.K X.mg) E ρ H (g w S) Q)
theorem pm_un {op : UnaryOp} {g : W → Store → Res W} (ho : UnM X E (unaryOp op) g) (ha : PM X E a ma) : PM X E (.UnaryOp op a pos) (mUn g ma) :=
  pe_imp (pe_un ho ha) fun _ _ _ h => tX.bind h fun ρ1 H1 w x s S1 rep env r o => ⟨ρ1, S1, w, rep, r, o⟩
end
/-! ### tests -/
noncomputable def asB (r : Res W) : Res Bool := r.bind fun w S => match w with
  | .bl b => .ok b S
  | _ => .bad
noncomputable def seqL (S : Store) : W → Option (List W)
  | .lst ws => some ws
  | .flst ws => some ws
  | .ref l => match S[l]? with
    | some (.lst ws) => some ws
    | _ => none
  | _ => none
/-- .. a list that may be added to another (it is tracked as a list) -/
noncomputable def seqM (S : Store) : W → Option (List W)
  | .lst ws => some ws
  | .ref l => match S[l]? with
    | some (.lst ws) => some ws
    | _ => none
  | _ => none
/-- a value's truth -/
noncomputable def truW (S : Store) : W → Option Bool
  | .non => some false
  | .bl b => some b
  | .int i => some (i != 0)
  | .str x => if x.length ≤ lim then some ((x.length : Int) != 0) else none
  | .tup ws => some (!ws.isEmpty)
  | .lst ws => some (!ws.isEmpty)
  | .flst ws => some (!ws.isEmpty)
  | .ref l => match S[l]? with
    | some (.lst ws) => some (!ws.isEmpty)
    | _ => none
  | _ => none
noncomputable def mTru (m : SM W) : SM Bool := fun s S => (m s S).bind fun w S1 => match truW S1 w with
  | some b => .ok b S1
  | none => .bad
section
variable {K : PySem.W.Frag} {mg : Str → Option Value} {ρ : RT} {H : Hp} {S : Store}
theorem rws_empty {ws : List W} {vs : List V} (r : RWs K mg ρ H ws vs) : (!ws.isEmpty) = !vs.isEmpty := by cases r <;> rfl
theorem sqT_of {a : Addr} {vs : List V} (h : Fx ρ H a (.tup vs) ∨ KTup K a vs) : SqT K H a vs := by
  rcases h with h | h
  · exact .inl (.inl h.1)
  · exact .inr h
theorem sqF_of {a : Addr} {vs : List V} (h : (∃ o, Fx ρ H a (.frz o (.lst vs))) ∨ KList K a vs) : SqL K H a vs := by
  rcases h with ⟨o, h⟩ | h
  · exact .inl (.inr ⟨o, h.1⟩)
  · exact .inr h
theorem seqL_of {w : W} {x : V} {ws : List W} (rep : RepS K mg ρ H S) (r : RW K mg ρ H w x) (h : seqL S w = some ws) : ∃ a vs, x = .ref a ∧ SqL K H a vs ∧ RWs K mg ρ H ws vs := by
  cases w with
  | lst us => cases h; cases r with | lst hf hr => exact ⟨_, _, rfl, .inl (.inl hf.1), hr⟩
  | flst us => cases h; cases r with | flst hf hr => exact ⟨_, _, rfl, sqF_of hf, hr⟩
  | ref l =>
    cases r with
    | ref hl =>
      cases e : S[l]? with
      | none => simp [seqL, e] at h
      | some ob =>
        cases ob with
        | lst us =>
          have h : us = ws := by simpa [seqL, seqM, e] using h
          subst h
          obtain ⟨a, h1, h2⟩ := rep.ob l _ e
          rw [hl] at h1; cases h1
          cases h2 with
          | lst h3 h4 => exact ⟨_, _, rfl, .inl (.inl h3), h4⟩
        | _ => simp [seqL, e] at h
  | _ => cases h
theorem seqM_of {w : W} {x : V} {ws : List W} (rep : RepS K mg ρ H S) (r : RW K mg ρ H w x) (h : seqM S w = some ws) : ∃ a vs, x = .ref a ∧ H a = some (.lst vs) ∧ RWs K mg ρ H ws vs := by
  cases w with
  | lst us => cases h; cases r with | lst hf hr => exact ⟨_, _, rfl, hf.1, hr⟩
  | ref l =>
    cases r with
    | ref hl =>
      cases e : S[l]? with
      | none => simp [seqM, e] at h
      | some ob =>
        cases ob with
        | lst us =>
          have h : us = ws := by simpa [seqL, seqM, e] using h
          subst h
          obtain ⟨a, h1, h2⟩ := rep.ob l _ e
          rw [hl] at h1; cases h1
          cases h2 with
          | lst h3 h4 => exact ⟨_, _, rfl, h3, h4⟩
        | _ => simp [seqM, e] at h
  | _ => cases h
theorem truW_of {w : W} {x : V} {b : Bool} (rep : RepS K mg ρ H S) (r : RW K mg ρ H w x) (h : truW S w = some b) : TruV K x H b := by
  cases w with
  | non => cases r; exact (Option.some.inj h).symm
  | bl c => cases r; exact (Option.some.inj h).symm
  | int i => cases r; exact (Option.some.inj h).symm
  | str y =>
    cases r
    have h : (if y.length ≤ lim then some ((y.length : Int) != 0) else none) = some b := h
    split at h
    · rename_i hz; exact ⟨lim_line hz, (Option.some.inj h).symm⟩
    · cases h
  | tup ws => cases r with | tup hf hr => exact .inr (.inl ⟨_, sqT_of hf, by rw [← rws_empty hr]; exact (Option.some.inj h).symm⟩)
  | lst ws => cases r with | lst hf hr => exact .inl ⟨_, .inl (.inl hf.1), by rw [← rws_empty hr]; exact (Option.some.inj h).symm⟩
  | flst ws => cases r with | flst hf hr => exact .inl ⟨_, sqF_of hf, by rw [← rws_empty hr]; exact (Option.some.inj h).symm⟩
  | ref l =>
    have h' : (seqL S (.ref l)).map (fun ws => !ws.isEmpty) = some b := by
      cases e : S[l]? with
      | none => simp [truW, e] at h
      | some ob => cases ob <;> first | (simp [truW, seqL, e] at h ⊢; exact h) | (simp [truW, e] at h)
    cases e : seqL S (.ref l) with
    | none => rw [e] at h'; cases h'
    | some ws =>
      rw [e] at h'
      obtain ⟨a, vs, rfl, hs, hr⟩ := seqL_of rep r e
      exact .inl ⟨vs, hs, by rw [← rws_empty hr]; exact (Option.some.inj h').symm⟩
  | _ => cases h
end
section
variable {X : Cx} {E : EK} {pos : Pos} {a b c : Expr} {ma mb mc : SM W} {na nb nc : SM Bool} {rest : List Expr}
/-- an expression of any kind, as a test -/
theorem ptm_tru (h : PM X E a ma) (he : ∀ whole, isTrue a X.env whole = (do let v ← whole; standAt a.pos; holding [v] (truthy v)) := by intro _; rfl) : PTM X E a (mTru ma) :=
  pt_imp (pt_truth h he) fun σ H Q q => tX.bind q fun ρ1 H1 w x s S1 rep env r o => by
    cases e : truW S1 w with
    | none => rw [e] at o; exact o.elim
    | some k => rw [e] at o; exact ⟨k, truW_of rep r e, Out.here o rep rfl⟩
noncomputable def mBT (g : W → W → Store → Res W) (ma mb : SM W) : SM Bool := fun s S => asB (mBin g ma mb s S)
theorem out_asB {K : PySem.W.Frag} {mg : Str → Option Value} {E : EK} {ρ : RT} {H : Hp} {r : Res W} {Q : Bool → Hp → Prop} (h : Out K mg (fun _ _ a b => a = b) E ρ H (asB r) Q) : Out K mg (RW K mg) E ρ H r fun x H1 => ∃ k, x = .bl k ∧ Q k H1 := by
  refine Out.bind (R' := fun _ _ (a : Bool) b => a = b) h fun ρ1 H1 w x S1 e rep r o => ?_
  cases w with
  | bl k => cases r; exact ⟨k, rfl, Out.here o rep rfl⟩
  | _ => exact o.elim
theorem Res.bind_assoc {α β γ : Type} (r : Res α) (k : α → Store → Res β) (l : β → Store → Res γ) : (r.bind k).bind l = r.bind fun a S => (k a S).bind l := by cases r <;> rfl
theorem ptm_cmp {op : CmpOp} {g : W → W → Store → Res W} (ho : OpM X E (compareOp op) g) (ha : PM X E a ma) (hb : PM X E b mb) (hm : behindInMarks op b = false := by first | exact nomark _ | rfl) : PTM X E (.Compare a [op] [b] pos) (mBT g ma mb) :=
  pt_imp (pt_cmpR ho ha hb hm) fun σ H Q ⟨ρ, s, S, rep, env, o⟩ => by
    have o' := out_asB o
    exact t2_of (g := g) ⟨ρ, s, S, rep, env, o'⟩
noncomputable def mAndT (na nb : SM Bool) : SM Bool := fun s S => (na s S).bind fun c S1 => if c = true then nb s S1 else .ok false S1
noncomputable def mOrT (na nb : SM Bool) : SM Bool := fun s S => (na s S).bind fun c S1 => if c = true then .ok true S1 else nb s S1
noncomputable def mNotT (na : SM Bool) : SM Bool := fun s S => (na s S).bind fun c S1 => .ok (!c) S1
theorem pwm_and1 (ha : PTM X E a na) : PWM X E (.BoolOp .And [a] pos) na := pw_and1 ha
theorem pwm_or1 (ha : PTM X E a na) : PWM X E (.BoolOp .Or [a] pos) na := pw_or1 ha
theorem pwm_and (ha : PTM X E a na) (hb : PWM X E (.BoolOp .And (b :: rest) pos) nb) : PWM X E (.BoolOp .And (a :: b :: rest) pos) (mAndT na nb) :=
  pw_imp (pw_and ha hb) fun σ H Q h => tX.bind h fun ρ1 H1 c c' s S1 rep env r o => by
    cases r
    cases c with
    | true => rw [if_pos rfl] at o; rw [if_pos rfl]; exact ⟨ρ1, s, S1, rep, env, o⟩
    | false => rw [if_neg Bool.false_ne_true] at o; rw [if_neg Bool.false_ne_true]; exact Out.here o rep rfl
theorem pwm_or (ha : PTM X E a na) (hb : PWM X E (.BoolOp .Or (b :: rest) pos) nb) : PWM X E (.BoolOp .Or (a :: b :: rest) pos) (mOrT na nb) :=
  pw_imp (pw_or ha hb) fun σ H Q h => tX.bind h fun ρ1 H1 c c' s S1 rep env r o => by
    cases r
    cases c with
    | false => rw [if_neg Bool.false_ne_true] at o; rw [if_neg Bool.false_ne_true]; exact ⟨ρ1, s, S1, rep, env, o⟩
    | true => rw [if_pos rfl] at o; rw [if_pos rfl]; exact Out.here o rep rfl
theorem PWM.pt (h : PWM X E a na) : PTM X E a na := PW.pt h
theorem ptm_not (ha : PTM X E a na) : PTM X E (.UnaryOp .Not a pos) (mNotT na) :=
  pt_imp (pt_not ha) fun σ H Q h => tX.bind h fun ρ1 H1 c c' s S1 rep env r o => by cases r; exact Out.here o rep rfl
/-- and, or, not as values: all but the last True or False -/
noncomputable def mAndV (ma mb : SM W) : SM W := fun s S => (ma s S).bind fun w S1 => match w with
  | .bl true => mb s S1
  | .bl false => .ok (.bl false) S1
  | _ => .bad
noncomputable def mOrV (ma mb : SM W) : SM W := fun s S => (ma s S).bind fun w S1 => match w with
  | .bl true => .ok (.bl true) S1
  | .bl false => mb s S1
  | _ => .bad
noncomputable def mNotV (ma : SM W) : SM W := fun s S => (ma s S).bind fun w S1 => match w with
  | .bl b => .ok (.bl (!b)) S1
  | _ => .bad
theorem pm_one {op : BoolOp} (ha : PM X E a ma) : PM X E (.BoolOp op [a] pos) ma := pe_one ha
theorem pm_and (ha : PM X E a ma) (hb : PM X E (.BoolOp .And (b :: rest) pos) mb) : PM X E (.BoolOp .And (a :: b :: rest) pos) (mAndV ma mb) :=
  pe_imp (pe_and ha hb) fun σ H Q h => tX.bind h fun ρ1 H1 w x s S1 rep env r o => by
    cases w with
    | bl k =>
      cases r
      refine ⟨k, rfl, ?_⟩
      cases k with
      | true => rw [if_pos rfl]; exact ⟨ρ1, s, S1, rep, env, o⟩
      | false => rw [if_neg Bool.false_ne_true]; exact Out.here o rep (.bl false)
    | _ => exact o.elim
theorem pm_not (ha : PM X E a ma) : PM X E (.UnaryOp .Not a pos) (mNotV ma) :=
  pe_imp (pe_not ha) fun σ H Q h => tX.bind h fun ρ1 H1 w x s S1 rep env r o => by
    cases w with
    | bl k => cases r; exact ⟨k, rfl, Out.here o rep (.bl _)⟩
    | _ => exact o.elim
noncomputable def mIfE (nc : SM Bool) (ma mb : SM W) : SM W := fun s S => (nc s S).bind fun k S1 => if k = true then ma s S1 else mb s S1
theorem pm_ifExp (hc : PTM X E c nc) (ha : PM X E a ma) (hb : PM X E b mb) : PM X E (.IfExp c a b pos) (mIfE nc ma mb) :=
  pe_imp (pe_ifExp hc ha hb) fun σ H Q h => tX.bind h fun ρ1 H1 k k' s S1 rep env r o => by
    cases r
    cases k with
    | true => rw [if_pos rfl] at o; rw [if_pos rfl]; exact ⟨ρ1, s, S1, rep, env, o⟩
    | false => rw [if_neg Bool.false_ne_true] at o; rw [if_neg Bool.false_ne_true]; exact ⟨ρ1, s, S1, rep, env, o⟩
/-- a < b < c -/
noncomputable def mChain (g g' : W → W → Store → Res W) (ma mb mc : SM W) : SM W := fun s S => (ma s S).bind fun x S1 => (mb s S1).bind fun y S2 => (g x y S2).bind fun z S3 => match z with
  | .bl true => (mc s S3).bind fun w S4 => g' y w S4
  | .bl false => .ok (.bl false) S3
  | _ => .bad
theorem chain_of {g g' : W → W → Store → Res W} {σ : L2.St} {H : Hp} {Q : VK} (h : tE X E (mChain g g' ma mb mc) σ H Q) : tChain (R2M X E g) (R2M X E g') (tE X E ma) (tE X E mb) (tE X E mc) σ H Q :=
  tX.bind h fun ρ1 H1 w1 x s S1 rep env r o => ⟨ρ1, s, S1, rep, env, Out.bind o fun ρ2 H2 w2 y S2 e rep2 r2 o2 => ⟨ρ2, S2, w1, w2, rep2, r.ext e, r2, Out.bind o2 fun ρ3 H3 w3 z S3 e3 rep3 r3 o3 => by
    cases w3 with
    | bl k =>
      cases r3
      refine ⟨k, rfl, ?_⟩
      cases k with
      | true => rw [if_pos rfl]; exact ⟨ρ3, s, S3, rep3, (env.ext e).ext e3, Out.bind o3 fun ρ4 H4 w4 x4 S4 e4 rep4 r4 o4 => ⟨ρ4, S4, w2, w4, rep4, (r2.ext e3).ext e4, r4, o4⟩⟩
      | false => rw [if_neg Bool.false_ne_true]; exact Out.here o3 rep3 (.bl false)
    | _ => exact o3.elim⟩⟩
theorem ptm_chain {op op' : CmpOp} {g g' : W → W → Store → Res W} (ho : OpM X E (compareOp op) g) (ho' : OpM X E (compareOp op') g') (ha : PM X E a ma) (hb : PM X E b mb) (hc : PM X E c mc) (hm : lastMarks [op, op'] [b, c] = false := by with_unfolding_all rfl) :
    PTM X E (.Compare a [op, op'] [b, c] pos) (fun s S => asB (mChain g g' ma mb mc s S)) := pt_imp (pt_chain ho ho' ha hb hc hm) fun σ H Q ⟨ρ, s, S, rep, env, o⟩ => chain_of ⟨ρ, s, S, rep, env, out_asB o⟩
end
end RL
end
section
set_option maxRecDepth 100000
set_option maxHeartbeats 2000000
namespace RL
open PySem PySem.Spec L2
variable [Lams]
/-! ### operators by values -/
noncomputable def gAdd (w1 w2 : W) (S : Store) : Res W := match w1 with
  | .int i => match w2 with
    | .int j => .ok (.int (i + j)) S
    | _ => .bad
  | .str x => match w2 with
    | .str y => if x.length + y.length ≤ lim then .ok (.str (x ++ y)) S else .bad
    | _ => .bad
  | .tup a => match w2 with
    | .tup b => if a.length + b.length ≤ lim then .ok (.tup (a ++ b)) S else .bad
    | _ => .bad
  | w => match seqM S w, seqM S w2 with
    | some a, some b => if a.length + b.length ≤ lim then .ok (.lst (a ++ b)) S else .bad
    | _, _ => .bad
noncomputable def gI (f : Int → Int → Int) (w1 w2 : W) (S : Store) : Res W := match w1, w2 with
  | .int i, .int j => .ok (.int (f i j)) S
  | _, _ => .bad
noncomputable def gIc (c : Int → Int → Bool) (f : Int → Int → Int) (w1 w2 : W) (S : Store) : Res W := match w1, w2 with
  | .int i, .int j => if c i j = true then .ok (.int (f i j)) S else .bad
  | _, _ => .bad
noncomputable def gIb (f : Int → Int → Bool) (w1 w2 : W) (S : Store) : Res W := match w1, w2 with
  | .int i, .int j => .ok (.bl (f i j)) S
  | _, _ => .bad
noncomputable abbrev gSub := gI fun i j => i - j
noncomputable def cMul (i j : Int) : Bool := (decide (-(2 ^ 64) < i) && decide (i < 2 ^ 64)) || (decide (-(2 ^ 64) < j) && decide (j < 2 ^ 64))
/-- a product; a list times a number -/
noncomputable def gMul (w1 w2 : W) (S : Store) : Res W := match w1 with
  | .int i => match w2 with
    | .int j => if cMul i j = true then .ok (.int (i * j)) S else .bad
    | _ => .bad
  | w => match seqM S w, w2 with
    | some a, .int k => if -(2 ^ 63) ≤ k ∧ k < 2 ^ 63 ∧ a.length * k.toNat ≤ lim then .ok (.lst (List.replicate k.toNat a).flatten) S else .bad
    | _, _ => .bad
noncomputable abbrev gMod := gIc (fun _ j => decide (0 < j)) fun i j => i % j
noncomputable abbrev gDiv := gIc (fun _ j => decide (0 < j) && decide (j < 1073741824)) fun i j => i / j
noncomputable abbrev gPow := gIc (fun i j => decide (0 ≤ j) && decide (j ≤ 1000000) && decide (i.natAbs < 2 ^ 64)) fun i j => i ^ j.toNat
noncomputable abbrev gLt := gIb fun i j => decide (i < j)
noncomputable abbrev gLe := gIb fun i j => decide (i ≤ j)
noncomputable abbrev gGt := gIb fun i j => decide (j < i)
noncomputable abbrev gGe := gIb fun i j => decide (j ≤ i)
section
variable {K : PySem.W.Frag} {mg : Str → Option Value} {ρ : RT} {H : Hp} {S : Store} {E : EK} {Q : VK}
/-- the end of a rule that lays a new tree -/
theorem out_tree {w : W} {p : Addr} {u : HO} (o : Out K mg (RW K mg) E ρ H (.ok w S) Q) (rep : RepS K mg ρ H S) (hp : H p = none) (mk : Ext ρ H ρ (upd H p u) → Fx ρ (upd H p u) p u → RW K mg ρ (upd H p u) w (.ref p)) : Q (.ref p) (upd H p u) := by
  obtain ⟨e, rep'⟩ := rep.tree hp u
  exact o ρ _ _ e rep' (mk e (fx_new rep hp u))
theorem out_lst {ws : List W} {vs : List V} {p : Addr} (o : Out K mg (RW K mg) E ρ H (.ok (.lst ws) S) Q) (rep : RepS K mg ρ H S) (hp : H p = none) (r : RWs K mg ρ H ws vs) : Q (.ref p) (upd H p (.lst vs)) :=
  out_tree o rep hp fun e f => .lst f (r.ext e)
theorem out_tup {ws : List W} {vs : List V} {p : Addr} (o : Out K mg (RW K mg) E ρ H (.ok (.tup ws) S) Q) (rep : RepS K mg ρ H S) (hp : H p = none) (r : RWs K mg ρ H ws vs) : Q (.ref p) (upd H p (.tup vs)) :=
  out_tree o rep hp fun e f => .tup (.inl f) (r.ext e)
theorem RWs.flatten {ws : List W} {vs : List V} (r : RWs K mg ρ H ws vs) : ∀ n : Nat, RWs K mg ρ H (List.replicate n ws).flatten (List.replicate n vs).flatten
  | 0 => .nil
  | n + 1 => by
    rw [List.replicate_succ, List.replicate_succ, List.flatten_cons, List.flatten_cons]
    exact r.append (r.flatten n)
end
section
variable {X : Cx} {E : EK}
theorem om_add : OpM X E (binaryOp .Add) gAdd := by
  intro pins s σ H x y v u Q I rx ry ⟨ρ, S, w1, w2, rep, r1, r2, o⟩
  have lists : (∀ a b, seqM S w1 = some a → seqM S w2 = some b → gAdd w1 w2 S = if a.length + b.length ≤ lim then .ok (.lst (a ++ b)) S else .bad) → (seqM S w1 = none ∨ seqM S w2 = none → gAdd w1 w2 S = .bad) → wpAny (model X.prog X.w) X.A (binaryOp .Add v u) (EP X pins σ Q) X.xe s := fun h1 h2 => by
    cases e1 : seqM S w1 with
    | none => rw [h2 (.inl e1)] at o; exact o.elim
    | some a =>
      cases e2 : seqM S w2 with
      | none => rw [h2 (.inr e2)] at o; exact o.elim
      | some b =>
        rw [h1 a b e1 e2] at o
        split at o
        · rename_i hz
          obtain ⟨p, xs, rfl, hp, q1⟩ := seqM_of rep r1 e1
          obtain ⟨q, ys, rfl, hq, q2⟩ := seqM_of rep r2 e2
          exact op_cat pins s σ H _ _ v u Q I rx ry ⟨p, q, xs, ys, rfl, rfl, hp, hq, by rw [← q1.length, ← q2.length]; exact lim_line hz, fun l hl => out_lst o rep hl (q1.append q2)⟩
        · exact o.elim
  cases w1 with
  | int i =>
    cases w2 with
    | int j => cases r1; cases r2; exact op_add pins s σ H _ _ v u Q I rx ry ⟨i, j, rfl, rfl, Out.here o rep (.int _)⟩
    | _ => exact o.elim
  | str a =>
    cases w2 with
    | str b =>
      cases r1; cases r2
      have o : Out X.K X.mg (RW X.K X.mg) E ρ H (if a.length + b.length ≤ lim then Res.ok (W.str (a ++ b)) S else Res.bad) Q := o
      split at o
      · rename_i hz; exact op_add_str pins s σ H _ _ v u Q I rx ry ⟨a, b, rfl, rfl, lim_line hz, Out.here o rep (.str _)⟩
      · exact o.elim
    | _ => exact o.elim
  | tup a =>
    cases w2 with
    | tup b =>
      have o : Out X.K X.mg (RW X.K X.mg) E ρ H (if a.length + b.length ≤ lim then Res.ok (W.tup (a ++ b)) S else Res.bad) Q := o
      split at o
      · rename_i hz
        cases r1 with
        | tup h1 q1 =>
          cases r2 with
          | tup h2 q2 =>
            refine op_catA pins s σ H _ _ v u Q I rx ry ⟨_, _, _, _, rfl, rfl, sqT_of h1, sqT_of h2, by rw [← q1.length, ← q2.length]; exact lim_line hz, fun e => ?_, fun _ e => ?_, fun _ _ p hp => ?_⟩
            · subst e
              have : a = [] := by cases q1; rfl
              subst this
              exact Out.here o rep (.tup h2 q2)
            · subst e
              have : b = [] := by cases q2; rfl
              subst this
              rw [List.append_nil] at o
              exact Out.here o rep (.tup h1 q1)
            · exact out_tup o rep hp (q1.append q2)
      · exact o.elim
    | _ => exact o.elim
  | lst a => exact lists (fun a b e1 e2 => by simp only [gAdd, e1, e2]) (fun h => by rcases h with h | h <;> simp only [gAdd, h] <;> cases seqM S (W.lst a) <;> rfl)
  | ref a => exact lists (fun a b e1 e2 => by simp only [gAdd, e1, e2]) (fun h => by rcases h with h | h <;> simp only [gAdd, h] <;> cases seqM S (W.ref a) <;> rfl)
  | _ => exact o.elim
theorem om_I {f : Value → Value → Sem Value} {g : Int → Int → Int} (h : OpR X f (rI0 fun i j => .int (g i j))) : OpM X E f (gI g) := by
  intro pins s σ H x y v u Q I rx ry ⟨ρ, S, w1, w2, rep, r1, r2, o⟩
  cases w1 with
  | int i =>
    cases w2 with
    | int j => cases r1; cases r2; exact h pins s σ H _ _ v u Q I rx ry ⟨i, j, rfl, rfl, Out.here o rep (.int _)⟩
    | _ => exact o.elim
  | _ => exact o.elim
theorem om_Ib {f : Value → Value → Sem Value} {g : Int → Int → Bool} (h : OpR X f (rI0 fun i j => .bl (g i j))) : OpM X E f (gIb g) := by
  intro pins s σ H x y v u Q I rx ry ⟨ρ, S, w1, w2, rep, r1, r2, o⟩
  cases w1 with
  | int i =>
    cases w2 with
    | int j => cases r1; cases r2; exact h pins s σ H _ _ v u Q I rx ry ⟨i, j, rfl, rfl, Out.here o rep (.bl _)⟩
    | _ => exact o.elim
  | _ => exact o.elim
theorem om_Ic {f : Value → Value → Sem Value} {c : Int → Int → Bool} {C : Int → Int → Prop} {g : Int → Int → Int} (h : OpR X f (rI C fun i j => .int (g i j))) (hc : ∀ i j, c i j = true → C i j) : OpM X E f (gIc c g) := by
  intro pins s σ H x y v u Q I rx ry ⟨ρ, S, w1, w2, rep, r1, r2, o⟩
  cases w1 with
  | int i =>
    cases w2 with
    | int j =>
      cases r1; cases r2
      have o : Out X.K X.mg (RW X.K X.mg) E ρ H (if c i j = true then Res.ok (W.int (g i j)) S else Res.bad) Q := o
      split at o
      · rename_i hz; exact h pins s σ H _ _ v u Q I rx ry ⟨i, j, rfl, rfl, hc i j hz, Out.here o rep (.int _)⟩
      · exact o.elim
    | _ => exact o.elim
  | _ => exact o.elim
theorem om_sub : OpM X E (binaryOp .Sub) gSub := om_I op_sub
theorem om_mod : OpM X E (binaryOp .Mod) gMod := om_Ic op_mod fun _ _ h => of_decide_eq_true h
theorem om_div : OpM X E (binaryOp .FloorDiv) gDiv := om_Ic op_fdiv fun _ _ h => by simp only [Bool.and_eq_true, decide_eq_true_eq] at h; exact h
theorem om_pow : OpM X E (binaryOp .Pow) gPow := om_Ic op_pow fun _ _ h => by simp only [Bool.and_eq_true, decide_eq_true_eq] at h; exact ⟨h.1.1, h.1.2, h.2⟩
theorem om_lt : OpM X E (compareOp .Lt) gLt := om_Ib op_lt
theorem om_le : OpM X E (compareOp .LtE) gLe := om_Ib op_le
theorem om_gt : OpM X E (compareOp .Gt) gGt := om_Ib op_gt
theorem om_ge : OpM X E (compareOp .GtE) gGe := om_Ib op_ge
theorem om_mul : OpM X E (binaryOp .Mult) gMul := by
  intro pins s σ H x y v u Q I rx ry ⟨ρ, S, w1, w2, rep, r1, r2, o⟩
  have lists : (∀ a k, seqM S w1 = some a → w2 = .int k → gMul w1 w2 S = if -(2 ^ 63) ≤ k ∧ k < 2 ^ 63 ∧ a.length * k.toNat ≤ lim then .ok (.lst (List.replicate k.toNat a).flatten) S else .bad) → (seqM S w1 = none ∨ (∀ k, w2 ≠ .int k) → gMul w1 w2 S = .bad) → wpAny (model X.prog X.w) X.A (binaryOp .Mult v u) (EP X pins σ Q) X.xe s := fun h1 h2 => by
    cases e1 : seqM S w1 with
    | none => rw [h2 (.inl e1)] at o; exact o.elim
    | some a =>
      cases w2 with
      | int k =>
        rw [h1 a k e1 rfl] at o
        split at o
        · rename_i hz
          obtain ⟨p, xs, rfl, hp, q1⟩ := seqM_of rep r1 e1
          cases r2
          exact op_rep pins s σ H _ _ v u Q I rx ry ⟨p, k, xs, rfl, rfl, hp, hz.1, hz.2.1, by rw [← q1.length]; exact lim_line hz.2.2, fun l hl => out_lst o rep hl (q1.flatten _)⟩
        · exact o.elim
      | _ => rw [h2 (.inr (by intro k e; cases e))] at o; exact o.elim
  cases w1 with
  | int i =>
    cases w2 with
    | int j =>
      cases r1; cases r2
      have o : Out X.K X.mg (RW X.K X.mg) E ρ H (if cMul i j = true then Res.ok (W.int (i * j)) S else Res.bad) Q := o
      split at o
      · rename_i hz
        refine op_mul pins s σ H _ _ v u Q I rx ry ⟨i, j, rfl, rfl, ?_, Out.here o rep (.int _)⟩
        simp only [cMul, Bool.or_eq_true, Bool.and_eq_true, decide_eq_true_eq] at hz
        exact hz
      · exact o.elim
    | _ => exact o.elim
  | lst a => exact lists (fun a k e1 e2 => by subst e2; simp only [gMul, e1]) (fun h => by
      rcases h with h | h
      · simp only [gMul, h]
      · simp only [gMul]; split <;> first | rfl | exact absurd rfl (h _))
  | ref a => exact lists (fun a k e1 e2 => by subst e2; simp only [gMul, e1]) (fun h => by
      rcases h with h | h
      · simp only [gMul, h]
      · simp only [gMul]; split <;> first | rfl | exact absurd rfl (h _))
  | _ => exact o.elim
end
/-! ### ==, !=, in, not in, is -/
mutual
noncomputable def toD : W → Option PyData
  | .non => some .none
  | .bl b => some (.bool b)
  | .int i => some (.int i)
  | .str x => some (.str x)
  | .tup ws => (toDs ws).map .tuple
  | .lst ws => (toDs ws).map .list
  | .flst ws => (toDs ws).map .list
  | _ => none
noncomputable def toDs : List W → Option (List PyData)
  | [] => some []
  | w :: ws => match toD w, toDs ws with
    | some d, some ds => some (d :: ds)
    | _, _ => none
end
section
variable {K : PySem.W.Frag} {mg : Str → Option Value} {ρ : RT} {H : Hp} {S : Store}
mutual
theorem toD_dp : ∀ {w : W} {v : V} {d : PyData}, RW K mg ρ H w v → toD w = some d → Dp K H v d
  | _, _, _, .non, h => by cases (Option.some.inj h : PyData.none = _); exact .non
  | _, _, _, .bl b, h => by cases (Option.some.inj h : PyData.bool b = _); exact .bl b
  | _, _, _, .int i, h => by cases (Option.some.inj h : PyData.int i = _); exact .int i
  | _, _, _, .str x, h => by cases (Option.some.inj h : PyData.str x = _); exact .str x
  | _, _, _, .tup (ws := ws) hf r, h => by
    cases e : toDs ws with
    | none => simp [toD, e] at h
    | some ds => simp [toD, e] at h; subst h; exact .tup (sqT_of hf) (toDs_dp r e)
  | _, _, _, .lst (ws := ws) hf r, h => by
    cases e : toDs ws with
    | none => simp [toD, e] at h
    | some ds => simp [toD, e] at h; subst h; exact .lst (.inl (.inl hf.1)) (toDs_dp r e)
  | _, _, _, .flst (ws := ws) hf r, h => by
    cases e : toDs ws with
    | none => simp [toD, e] at h
    | some ds => simp [toD, e] at h; subst h; exact .lst (sqF_of hf) (toDs_dp r e)
  | _, _, _, .ty _, h => by cases h
  | _, _, _, .gl _, h => by cases h
  | _, _, _, .ref _, h => by cases h
  | _, _, _, .dic _ _ _, h => by cases h
  | _, _, _, .ins _ _ _ _, h => by cases h
theorem toDs_dp : ∀ {ws : List W} {vs : List V} {ds : List PyData}, RWs K mg ρ H ws vs → toDs ws = some ds → DpAll K H vs ds
  | _, _, _, .nil, h => by cases (Option.some.inj h : [] = _); exact .nil
  | _, _, _, .cons (w := w) (ws := ws) r t, h => by
    cases e1 : toD w with
    | none => simp [toDs, e1] at h
    | some d =>
      cases e2 : toDs ws with
      | none => simp [toDs, e1, e2] at h
      | some ds => simp [toDs, e1, e2] at h; subst h; exact .cons (toD_dp r e1) (toDs_dp t e2)
end
/-- a list of the store is read at its top -/
noncomputable def toDT (S : Store) (w : W) : Option PyData := match w with
  | .ref _ => match seqM S w with
    | some ws => (toDs ws).map .list
    | none => none
  | w => toD w
theorem toDT_dp {w : W} {v : V} {d : PyData} (rep : RepS K mg ρ H S) (r : RW K mg ρ H w v) (h : toDT S w = some d) : Dp K H v d := by
  cases w with
  | ref l =>
    cases e : seqM S (.ref l) with
    | none => simp [toDT, e] at h
    | some ws =>
      obtain ⟨a, vs, rfl, hs, hr⟩ := seqM_of rep r e
      cases e2 : toDs ws with
      | none => simp [toDT, e, e2] at h
      | some ds => simp [toDT, e, e2] at h; subst h; exact .lst (.inl (.inl hs)) (toDs_dp hr e2)
  | _ => exact toD_dp r h
end
noncomputable def xorB (neg b : Bool) : Bool := if neg then !b else b
/-- == (neg: !=) -/
noncomputable def gEq (neg : Bool) (w1 w2 : W) (S : Store) : Res W := match w1, w2 with
  | .str x, .str y => .ok (.bl (xorB neg (decide (x = y)))) S
  | .int x, .int y => .ok (.bl (xorB neg (decide (x = y)))) S
  | .bl x, .bl y => .ok (.bl (xorB neg (decide (x = y)))) S
  | w1, w2 => match toDT S w1, toDT S w2 with
    | some d, some e => if SeqAt.shaped d = true ∧ SeqAt.shaped e = true then .ok (.bl (xorB neg (PyData.eqv d e))) S else .bad
    | _, _ => .bad
section
variable {X : Cx} {E : EK}
theorem gEq_deep {neg : Bool} {w1 w2 : W} {S : Store} (h : (∀ x y, w1 = .str x → w2 = .str y → False) ∧ (∀ x y, w1 = .int x → w2 = .int y → False) ∧ (∀ x y, w1 = .bl x → w2 = .bl y → False)) :
    gEq neg w1 w2 S = match toDT S w1, toDT S w2 with
    | some d, some e => if SeqAt.shaped d = true ∧ SeqAt.shaped e = true then .ok (.bl (xorB neg (PyData.eqv d e))) S else .bad
    | _, _ => .bad := by
  unfold gEq
  split
  · exact (h.1 _ _ rfl rfl).elim
  · exact (h.2.1 _ _ rfl rfl).elim
  · exact (h.2.2 _ _ rfl rfl).elim
  · rfl
theorem om_eqs {op : CmpOp} {neg : Bool} (hs : OpR X (compareOp op) (fun x y H Q => scal x y = true ∧ Q (.bl (xorB neg (decide (x = y)))) H))
    (hd : OpR X (compareOp op) (fun x y H Q => ∃ d e, Dp X.K H x d ∧ Dp X.K H y e ∧ SeqAt.shaped d = true ∧ SeqAt.shaped e = true ∧ Q (.bl (xorB neg (PyData.eqv d e))) H)) : OpM X E (compareOp op) (gEq neg) := by
  intro pins s σ H x y v u Q I rx ry ⟨ρ, S, w1, w2, rep, r1, r2, o⟩
  have deep : (∀ x y, w1 = .str x → w2 = .str y → False) ∧ (∀ x y, w1 = .int x → w2 = .int y → False) ∧ (∀ x y, w1 = .bl x → w2 = .bl y → False) → wpAny (model X.prog X.w) X.A (compareOp op v u) (EP X pins σ Q) X.xe s := fun h => by
    rw [gEq_deep h] at o
    cases e1 : toDT S w1 with
    | none => rw [e1] at o; exact o.elim
    | some d =>
      cases e2 : toDT S w2 with
      | none => rw [e1, e2] at o; exact o.elim
      | some e =>
        rw [e1, e2] at o
        dsimp only at o
        split at o
        · rename_i hz; exact hd pins s σ H x y v u Q I rx ry ⟨d, e, toDT_dp rep r1 e1, toDT_dp rep r2 e2, hz.1, hz.2, Out.here o rep (.bl _)⟩
        · exact o.elim
  cases w1 with
  | str a =>
    cases w2 with
    | str b =>
      cases r1; cases r2
      have e : decide (V.str a = V.str b) = decide (a = b) := by rw [decide_eq_decide]; exact ⟨fun z => V.str.inj z, fun z => by rw [z]⟩
      exact hs pins s σ H _ _ v u Q I rx ry ⟨rfl, by rw [e]; exact Out.here (w := W.bl (xorB neg (decide (a = b)))) o rep (.bl _)⟩
    | _ => exact deep ⟨fun _ _ _ z => (by cases z), fun _ _ z _ => (by cases z), fun _ _ z _ => (by cases z)⟩
  | int a =>
    cases w2 with
    | int b =>
      cases r1; cases r2
      have e : decide (V.int a = V.int b) = decide (a = b) := by rw [decide_eq_decide]; exact ⟨fun z => V.int.inj z, fun z => by rw [z]⟩
      exact hs pins s σ H _ _ v u Q I rx ry ⟨rfl, by rw [e]; exact Out.here (w := W.bl (xorB neg (decide (a = b)))) o rep (.bl _)⟩
    | _ => exact deep ⟨fun _ _ z _ => (by cases z), fun _ _ _ z => (by cases z), fun _ _ z _ => (by cases z)⟩
  | bl a =>
    cases w2 with
    | bl b =>
      cases r1; cases r2
      have e : decide (V.bl a = V.bl b) = decide (a = b) := by rw [decide_eq_decide]; exact ⟨fun z => V.bl.inj z, fun z => by rw [z]⟩
      exact hs pins s σ H _ _ v u Q I rx ry ⟨rfl, by rw [e]; exact Out.here (w := W.bl (xorB neg (decide (a = b)))) o rep (.bl _)⟩
    | _ => exact deep ⟨fun _ _ z _ => (by cases z), fun _ _ z _ => (by cases z), fun _ _ _ z => (by cases z)⟩
  | _ => exact deep ⟨fun _ _ z _ => (by cases z), fun _ _ z _ => (by cases z), fun _ _ z _ => (by cases z)⟩
theorem om_eq (hu : X.A.units + 64 < cLine) : OpM X E (compareOp .Eq) (gEq false) := om_eqs (neg := false) op_eq (op_eqD hu)
theorem om_ne (hu : X.A.units + 64 < cLine) : OpM X E (compareOp .NotEq) (gEq true) := om_eqs (neg := true) op_ne (op_neD hu)
end
noncomputable def flatW : W → Bool
  | .non | .bl _ | .int _ | .str _ => true
  | _ => false
noncomputable def eqF : W → W → Bool
  | .non, .non => true
  | .bl a, .bl b => a == b
  | .bl a, .int b => (if a then 1 else 0) == b
  | .int a, .bl b => a == (if b then 1 else 0)
  | .int a, .int b => a == b
  | .str a, .str b => a == b
  | _, _ => false
noncomputable def inW (x : W) (ws : List W) : Bool := ws.any fun y => eqF y x
noncomputable def tupL : W → Option (List W)
  | .tup ws => some ws
  | _ => none
/-- in (neg: not in): a text in a text; a flat value in a list or tuple of flat ones; data in a list of data -/
noncomputable def gIn (neg : Bool) (w1 w2 : W) (S : Store) : Res W := match w1, w2 with
  | .str x, .str y => .ok (.bl (xorB neg (!(Builtin.Str.occurrences y x 0 y.length 1).isEmpty))) S
  | w1, w2 => match (tupL w2).or (seqL S w2) with
    | some ws => if flatW w1 = true ∧ ws.all flatW = true then .ok (.bl (xorB neg (inW w1 ws))) S else match toD w1, toDs ws with
      | some d, some ds => if (tupL w2).isNone = true ∧ SeqAt.shaped d = true ∧ SeqAt.shaped (.list ds) = true then .ok (.bl (xorB neg (ds.any fun z => PyData.eqv z d))) S else .bad
      | _, _ => .bad
    | none => .bad
section
variable {K : PySem.W.Frag} {mg : Str → Option Value} {ρ : RT} {H : Hp} {S : Store}
theorem flat_of {w : W} {v : V} (r : RW K mg ρ H w v) (h : flatW w = true) : flatV v = true := by
  cases r <;> first | rfl | cases h
theorem flats_of : ∀ {ws : List W} {vs : List V}, RWs K mg ρ H ws vs → ws.all flatW = true → vs.all flatV = true
  | _, _, .nil, _ => rfl
  | _, _, .cons r t, h => by
    rw [List.all_cons, Bool.and_eq_true] at h ⊢
    exact ⟨flat_of r h.1, flats_of t h.2⟩
theorem eqF_of {w w' : W} {v v' : V} (r : RW K mg ρ H w v) (r' : RW K mg ρ H w' v') (h : flatW w = true) (h' : flatW w' = true) : eqV v v' = eqF w w' := by
  cases r <;> first | (cases h; done) | (cases r' <;> first | rfl | (cases h'; done))
theorem inW_of {w : W} {v : V} (r : RW K mg ρ H w v) (h : flatW w = true) : ∀ {ws : List W} {vs : List V}, RWs K mg ρ H ws vs → ws.all flatW = true → inV v vs = inW w ws
  | _, _, .nil, _ => rfl
  | _, _, .cons r1 t, h1 => by
    rw [List.all_cons, Bool.and_eq_true] at h1
    have ih := inW_of r h t h1.2
    unfold inV inW at ih ⊢
    rw [List.any_cons, List.any_cons, eqF_of r1 r h1.1 h, ih]
end
section
variable {X : Cx} {E : EK}
theorem gIn_seq {neg : Bool} {w1 w2 : W} {S : Store} (h : ∀ x y, w1 = .str x → w2 = .str y → False) : gIn neg w1 w2 S = match (tupL w2).or (seqL S w2) with
    | some ws => if flatW w1 = true ∧ ws.all flatW = true then .ok (.bl (xorB neg (inW w1 ws))) S else match toD w1, toDs ws with
      | some d, some ds => if (tupL w2).isNone = true ∧ SeqAt.shaped d = true ∧ SeqAt.shaped (.list ds) = true then .ok (.bl (xorB neg (ds.any fun z => PyData.eqv z d))) S else .bad
      | _, _ => .bad
    | none => .bad := by
  unfold gIn
  split
  · exact (h _ _ rfl rfl).elim
  · rfl
theorem om_ins {op : CmpOp} {neg : Bool} (h1 : OpR X (compareOp op) (fun x y H Q => ∃ i j, x = .str i ∧ y = .str j ∧ Q (.bl (xorB neg (!(Builtin.Str.occurrences j i 0 j.length 1).isEmpty))) H))
    (h2 : OpR X (compareOp op) (rIn X.K neg)) (h3 : OpR X (compareOp op) (fun x y H Q => ∃ d ds, Dp X.K H x d ∧ Dp X.K H y (.list ds) ∧ SeqAt.shaped d = true ∧ SeqAt.shaped (.list ds) = true ∧ Q (.bl (xorB neg (ds.any fun z => PyData.eqv z d))) H)) : OpM X E (compareOp op) (gIn neg) := by
  intro pins s σ H x y v u Q I rx ry ⟨ρ, S, w1, w2, rep, r1, r2, o⟩
  have seq : (∀ x y, w1 = .str x → w2 = .str y → False) → wpAny (model X.prog X.w) X.A (compareOp op v u) (EP X pins σ Q) X.xe s := fun h => by
    rw [gIn_seq h] at o
    cases e0 : (tupL w2).or (seqL S w2) with
    | none => rw [e0] at o; exact o.elim
    | some ws =>
      rw [e0] at o
      dsimp only at o
      have lies : ∃ a vs, y = .ref a ∧ (SqL X.K H a vs ∨ SqT X.K H a vs) ∧ RWs X.K X.mg ρ H ws vs ∧ ((tupL w2).isNone = true → SqL X.K H a vs) := by
        cases w2 with
        | tup us => cases (Option.some.inj e0 : us = ws); cases r2 with | tup hf hr => exact ⟨_, _, rfl, .inr (sqT_of hf), hr, fun z => (by cases z)⟩
        | _ => obtain ⟨a, vs, rfl, hs, hr⟩ := seqL_of rep r2 (by simpa [tupL] using e0); exact ⟨a, vs, rfl, .inl hs, hr, fun _ => hs⟩
      obtain ⟨a, vs, rfl, hs, hr, hl⟩ := lies
      split at o
      · rename_i hz
        have q := Out.here o rep (.bl _)
        rw [← inW_of r1 hz.1 hr hz.2] at q
        exact h2 pins s σ H x _ v u Q I rx ry ⟨a, vs, rfl, hs, flat_of r1 hz.1, flats_of hr hz.2, q⟩
      · cases e1 : toD w1 with
        | none => rw [e1] at o; exact o.elim
        | some d =>
          cases e2 : toDs ws with
          | none => rw [e1, e2] at o; exact o.elim
          | some ds =>
            rw [e1, e2] at o
            dsimp only at o
            split at o
            · rename_i hz
              exact h3 pins s σ H x _ v u Q I rx ry ⟨d, ds, toD_dp r1 e1, .lst (hl hz.1) (toDs_dp hr e2), hz.2.1, hz.2.2, Out.here o rep (.bl _)⟩
            · exact o.elim
  cases w1 with
  | str a =>
    cases w2 with
    | str b => cases r1; cases r2; exact h1 pins s σ H _ _ v u Q I rx ry ⟨a, b, rfl, rfl, Out.here (w := W.bl _) o rep (.bl _)⟩
    | _ => exact seq fun _ _ _ z => by cases z
  | _ => exact seq fun _ _ z _ => by cases z
theorem om_in (hu : X.A.units + 65 < cLine) : OpM X E (compareOp .In) (gIn false) := om_ins (neg := false) op_in_str op_in_seq (op_inD hu)
end
noncomputable def isNonW : W → Bool
  | .non => true
  | _ => false
/-- is (neg: is not): with None, or two bools -/
noncomputable def gIs (neg : Bool) (w1 w2 : W) (S : Store) : Res W := match w2 with
  | .non => .ok (.bl (xorB neg (isNonW w1))) S
  | .bl b => match w1 with
    | .bl a => .ok (.bl (xorB neg (decide (a = b)))) S
    | _ => .bad
  | _ => .bad
section
variable {X : Cx} {E : EK}
theorem om_iss {op : CmpOp} {neg : Bool} (h1 : OpR X (compareOp op) (fun x y H Q => y = .non ∧ Q (.bl (xorB neg (decide (x = .non)))) H)) (h2 : OpR X (compareOp op) (fun x y H Q => ∃ a b : Bool, x = .bl a ∧ y = .bl b ∧ Q (.bl (xorB neg (decide (a = b)))) H)) : OpM X E (compareOp op) (gIs neg) := by
  intro pins s σ H x y v u Q I rx ry ⟨ρ, S, w1, w2, rep, r1, r2, o⟩
  cases w2 with
  | non =>
    cases r2
    have e : decide (x = .non) = isNonW w1 := by cases r1 <;> first | rfl | (exact decide_eq_false (fun z => by cases z))
    exact h1 pins s σ H _ _ v u Q I rx ry ⟨rfl, by rw [e]; exact Out.here (w := W.bl _) o rep (.bl _)⟩
  | bl b =>
    cases w1 with
    | bl a => cases r1; cases r2; exact h2 pins s σ H _ _ v u Q I rx ry ⟨a, b, rfl, rfl, Out.here (w := W.bl _) o rep (.bl _)⟩
    | _ => exact o.elim
  | _ => exact o.elim
theorem om_is : OpM X E (compareOp .Is) (gIs false) := om_iss (neg := false) op_isN op_isBl
theorem om_isNot : OpM X E (compareOp .IsNot) (gIs true) := om_iss (neg := true) op_notN op_notBl
end
end RL
end
section
set_option maxRecDepth 100000
set_option maxHeartbeats 2000000
namespace RL
open PySem PySem.Spec L2
open PyProof.Rows hiding St
variable [Lams]
/-! ### a[i], a[lo:hi] -/
noncomputable def gIx (w1 w2 : W) (S : Store) : Res W := match w2 with
  | .int i => match w1 with
    | .str z => if z.length ≤ lim then match atI z.cps.toList i with
      | some c => .ok (.str ⟨#[c]⟩) S
      | none => .bad else .bad
    | .tup ws => match atI ws i with
      | some w => .ok w S
      | none => .bad
    | w => match (seqL S w).bind fun ws => atI ws i with
      | some w => .ok w S
      | none => .bad
  | _ => .bad
theorem atI_rws {K : PySem.W.Frag} {mg : Str → Option Value} {ρ : RT} {H : Hp} {ws : List W} {vs : List V} {i : Int} {w : W} (r : RWs K mg ρ H ws vs) (h : atI ws i = some w) : ∃ v, atI vs i = some v ∧ RW K mg ρ H w v := by
  unfold atI at h ⊢
  rw [r.length] at h
  cases e : ixN vs.length i with
  | none => rw [e] at h; cases h
  | some j =>
    rw [e] at h
    exact r.get (i := j) h
section
variable {X : Cx} {E : EK} {pos p2 : Pos} {a b : Expr} {ma mb : SM W}
theorem ix_all : IxR X (R2M X E gIx) := by
  intro value slice pins s σ H x y v u Q I rx ry ⟨ρ, S, w1, w2, rep, r1, r2, o⟩ hs
  cases w2 with
  | int i =>
    have lists : (∀ w, ((seqL S w1).bind fun ws => atI ws i) = some w → gIx w1 (.int i) S = .ok w S) → (((seqL S w1).bind fun ws => atI ws i) = none → gIx w1 (.int i) S = .bad) → wpAny (model X.prog X.w) X.A (subscriptTail value slice v u) (EP X pins σ Q) X.xe s := fun h1 h2 => by
      cases e : (seqL S w1).bind fun ws => atI ws i with
      | none => rw [h2 e] at o; exact o.elim
      | some w =>
        rw [h1 w e] at o
        cases e1 : seqL S w1 with
        | none => rw [e1] at e; cases e
        | some ws =>
          rw [e1] at e
          obtain ⟨p, vs, rfl, hl, hr⟩ := seqL_of rep r1 e1
          obtain ⟨v', h3, h4⟩ := atI_rws hr e
          cases r2
          exact ix_list value slice pins s σ H _ _ v u Q I rx ry ⟨p, vs, i, v', rfl, rfl, hl, h3, Out.here o rep h4⟩ hs
    cases w1 with
    | str z =>
      have o : Out X.K X.mg (RW X.K X.mg) E ρ H (if z.length ≤ lim then (match atI z.cps.toList i with
        | some c => Res.ok (W.str ⟨#[c]⟩) S
        | none => Res.bad) else Res.bad) Q := o
      split at o
      · rename_i hz
        cases e : atI z.cps.toList i with
        | none => rw [e] at o; exact o.elim
        | some c =>
          rw [e] at o
          cases r1; cases r2
          exact ix_str value slice pins s σ H _ _ v u Q I rx ry ⟨z, i, c, rfl, rfl, lim_line hz, e, Out.here o rep (.str _)⟩ hs
      · exact o.elim
    | tup ws =>
      have o : Out X.K X.mg (RW X.K X.mg) E ρ H (match atI ws i with
        | some w => Res.ok w S
        | none => Res.bad) Q := o
      cases e : atI ws i with
      | none => rw [e] at o; exact o.elim
      | some w =>
        rw [e] at o
        cases r1 with
        | tup hf hr =>
          obtain ⟨v', h3, h4⟩ := atI_rws hr e
          cases r2
          exact ix_tup value slice pins s σ H _ _ v u Q I rx ry ⟨_, _, i, v', rfl, rfl, sqT_of hf, h3, Out.here o rep h4⟩ hs
    | lst ws => exact lists (fun w e => by simp only [gIx, e]) (fun e => by simp only [gIx, e])
    | flst ws => exact lists (fun w e => by simp only [gIx, e]) (fun e => by simp only [gIx, e])
    | ref l => exact lists (fun w e => by simp only [gIx, e]) (fun e => by simp only [gIx, e])
    | _ => exact o.elim
  | _ => exact o.elim
theorem pm_ix (ha : PM X E a ma) (hb : PM X E b mb) (hs : PlainIx b := by exact fun _ _ => rfl) : PM X E (.Subscript a b pos) (mBin gIx ma mb) := pe_imp (pe_ix ix_all ha hb hs) fun _ _ _ h => t2_of h
noncomputable def POM (X : Cx) (E : EK) (e : Option Expr) (m : SM (Option Int)) : Prop := PO X e (tX X.K X.mg (fun _ _ a b => a = b) E m)
noncomputable def mNoPart : SM (Option Int) := fun _ S => .ok none S
noncomputable def mPart (m : SM W) : SM (Option Int) := fun s S => (m s S).bind fun w S1 => match w with
  | .int i => .ok (some i) S1
  | _ => .bad
theorem po_imp {e : Option Expr} {t t' : TO} (h : PO X e t) (f : ∀ σ H Q, t' σ H Q → t σ H Q) : PO X e t' := ⟨fun pins s σ H Q I q => h.run pins s σ H Q I (f σ H Q q)⟩
theorem pom_none : POM X E none mNoPart := po_imp po_none fun σ H Q ⟨ρ, s, S, rep, env, o⟩ => Out.here o rep rfl
theorem pom_some (h : PM X E a ma) : POM X E (some a) (mPart ma) := po_imp (po_some h) fun σ H Q q => tX.bind q fun ρ1 H1 w x s S1 rep env r o => by
  cases w with
  | int i => cases r; exact ⟨i, rfl, Out.here o rep rfl⟩
  | _ => exact o.elim
noncomputable def cutW (xs : List W) (lo hi : Option Int) : List W := (xs.drop (HT.sIx xs.length 0 lo)).take (HT.sIx xs.length xs.length hi - HT.sIx xs.length 0 lo)
theorem RWs.cut {K : PySem.W.Frag} {mg : Str → Option Value} {ρ : RT} {H : Hp} {ws : List W} {vs : List V} (r : RWs K mg ρ H ws vs) (lo hi : Option Int) : RWs K mg ρ H (cutW ws lo hi) (cutV vs lo hi) := by
  unfold cutW cutV
  rw [r.length]
  exact (r.drop _).take _
theorem cutW_whole {ws : List W} {lo hi : Option Int} (h : HT.sIx ws.length 0 lo = 0 ∧ HT.sIx ws.length ws.length hi = ws.length) : cutW ws lo hi = ws := by
  unfold cutW
  rw [h.1, h.2, List.drop_zero, Nat.sub_zero, List.take_length]
noncomputable def gSl (w : W) (lo hi : Option Int) (S : Store) : Res W := match w with
  | .str z => if z.length ≤ lim then .ok (.str (cutS z lo hi)) S else .bad
  | .tup ws => .ok (.tup (cutW ws lo hi)) S
  | w => match seqL S w with
    | some ws => .ok (.lst (cutW ws lo hi)) S
    | none => .bad
theorem sl_all : SlR X (fun x lo hi H Q => ∃ ρ S w, RepS X.K X.mg ρ H S ∧ RW X.K X.mg ρ H w x ∧ Out X.K X.mg (RW X.K X.mg) E ρ H (gSl w lo hi S) Q) := by
  intro pins s σ H x v vl vu lo hi sl Q I rx hs pl pu ⟨ρ, S, w, rep, r, o⟩
  have lists : (∀ ws, seqL S w = some ws → gSl w lo hi S = .ok (.lst (cutW ws lo hi)) S) → (seqL S w = none → gSl w lo hi S = .bad) → ∃ T id, typeLookup (.type T) "__getitem__" = pure (some (.builtin id)) ∧ s.TypeIs v T ∧ wpAny (model X.prog X.w) X.A (getItem v (.ref sl)) (EP X pins σ Q) X.xe s := fun h1 h2 => by
    cases e : seqL S w with
    | none => rw [h2 e] at o; exact o.elim
    | some ws =>
      rw [h1 ws e] at o
      obtain ⟨a, vs, rfl, hl, hr⟩ := seqL_of rep r e
      exact sl_list pins s σ H _ v vl vu lo hi sl Q I rx hs pl pu ⟨a, vs, rfl, hl, fun p hp => out_lst o rep hp (hr.cut lo hi)⟩
  cases w with
  | str z =>
    have o : Out X.K X.mg (RW X.K X.mg) E ρ H (if z.length ≤ lim then Res.ok (W.str (cutS z lo hi)) S else Res.bad) Q := o
    split at o
    · rename_i hz
      cases r
      exact sl_str pins s σ H _ v vl vu lo hi sl Q I rx hs pl pu ⟨z, rfl, lim_line hz, Out.here o rep (.str _)⟩
    · exact o.elim
  | tup ws =>
    cases r with
    | tup hf hr =>
      have o : Out X.K X.mg (RW X.K X.mg) E ρ H (Res.ok (W.tup (cutW ws lo hi)) S) Q := o
      refine sl_tupA pins s σ H _ v vl vu lo hi sl Q I rx hs pl pu ⟨_, _, rfl, sqT_of hf, fun h => ?_, fun _ p hp => out_tup o rep hp (hr.cut lo hi)⟩
      rw [← hr.length] at h
      rw [cutW_whole h] at o
      exact Out.here o rep (.tup hf hr)
  | lst ws => exact lists (fun ws e => by simp only [gSl, e]) (fun e => by simp only [gSl, e])
  | flst ws => exact lists (fun ws e => by simp only [gSl, e]) (fun e => by simp only [gSl, e])
  | ref l => exact lists (fun ws e => by simp only [gSl, e]) (fun e => by simp only [gSl, e])
  | _ => exact o.elim
noncomputable def mSl (ma : SM W) (ml mh : SM (Option Int)) : SM W := fun s S => (ma s S).bind fun w S1 => (ml s S1).bind fun lo S2 => (mh s S2).bind fun hi S3 => gSl w lo hi S3
theorem pm_slice {lo hi : Option Expr} {ml mh : SM (Option Int)} (ha : PM X E a ma) (hl : POM X E lo ml) (hh : POM X E hi mh) : PM X E (.Subscript a (.Slice lo hi none p2) pos) (mSl ma ml mh) :=
  pe_imp (pe_slice sl_all ha hl hh) fun σ H Q h => tX.bind h fun ρ1 H1 w x s S1 rep env r o => ⟨ρ1, s, S1, rep, env, Out.bind o fun ρ2 H2 l l' S2 e2 rep2 r2 o2 => ⟨ρ2, s, S2, rep2, env.ext e2, Out.bind o2 fun ρ3 H3 k k' S3 e3 rep3 r3 o3 => by
    cases r2; cases r3
    exact ⟨ρ3, S3, w, rep3, (r.ext e2).ext e3, o3⟩⟩⟩
/-! ### argument lists, displays -/
variable {es : List Expr} {mr : SM (List W)}
noncomputable def mNil : SM (List W) := fun _ S => .ok [] S
noncomputable def mCons (m : SM W) (mr : SM (List W)) : SM (List W) := fun s S => (m s S).bind fun w S1 => (mr s S1).bind fun ws S2 => .ok (w :: ws) S2
theorem pam_nil : PAM X E [] mNil := pa_imp pa_nil fun σ H Q ⟨ρ, s, S, rep, env, o⟩ => Out.here o rep .nil
theorem pam_cons (ha : PM X E a ma) (hr : PAM X E es mr) (hs : starEach (a :: es) X.env = (false, eval a X.env) :: starEach es X.env := by rfl) : PAM X E (a :: es) (mCons ma mr) :=
  pa_imp (pa_cons ha hr hs) fun σ H Q h => tX.bind h fun ρ1 H1 w x s S1 rep env r o => ⟨ρ1, s, S1, rep, env, Out.bind o fun ρ2 H2 ws xs S2 e2 rep2 r2 o2 => Out.here o2 rep2 (.cons (r.ext e2) r2)⟩
noncomputable def gTup (ws : List W) (S : Store) : Res W := if ws.length ≤ lim then .ok (.tup ws) S else .bad
noncomputable def gLst (ws : List W) (S : Store) : Res W := if ws.length ≤ lim then .ok (.lst ws) S else .bad
/-- a list that will be changed: an object of the store -/
noncomputable def gLstR (ws : List W) (S : Store) : Res W := if ws.length ≤ lim then .ok (.ref S.length) (S ++ [.lst ws]) else .bad
noncomputable def mAp (g : List W → Store → Res W) (mr : SM (List W)) : SM W := fun s S => (mr s S).bind g
theorem pm_tup {k : Nat} (h : PAM X E es mr) : PM X E (.Tuple es k pos) (mAp gTup mr) := pe_imp (pe_tup h) fun σ H Q q => tX.bind q fun ρ1 H1 ws xs s S1 rep env r o => by
  unfold gTup at o
  split at o
  · rename_i hz; exact ⟨by rw [← r.length]; exact lim_line hz, fun p hp => out_tup o rep hp r⟩
  · exact o.elim
theorem pm_lst (h : PAM X E es mr) : PM X E (.List es pos) (mAp gLst mr) := pe_imp (pe_lst h) fun σ H Q q => tX.bind q fun ρ1 H1 ws xs s S1 rep env r o => by
  unfold gLst at o
  split at o
  · rename_i hz; exact ⟨by rw [← r.length]; exact lim_line hz, fun p hp => out_lst o rep hp r⟩
  · exact o.elim
theorem out_new {K : PySem.W.Frag} {mg : Str → Option Value} {ρ : RT} {H : Hp} {S : Store} {E : EK} {Q : VK} {u : Ob} {p : Addr} {o' : HO} (o : Out K mg (RW K mg) E ρ H (.ok (.ref S.length) (S ++ [u])) Q) (rep : RepS K mg ρ H S) (hp : H p = none)
    (mk : Ext ρ H (ρ.snoc p) (upd H p o') → RO K mg (ρ.snoc p) (upd H p o') p u) : Q (.ref p) (upd H p o') := by
  have e := ext_push rep hp o'
  obtain ⟨e', rep'⟩ := rep.push hp (mk e)
  refine o _ _ _ e' rep' (.ref ?_)
  show (ρ.r ++ [p])[S.length]? = some p
  rw [← rep.len, List.getElem?_append_right (Nat.le_refl _), Nat.sub_self] <;> rfl
theorem pm_lstR (h : PAM X E es mr) : PM X E (.List es pos) (mAp gLstR mr) := pe_imp (pe_lst h) fun σ H Q q => tX.bind q fun ρ1 H1 ws xs s S1 rep env r o => by
  unfold gLstR at o
  split at o
  · rename_i hz; exact ⟨by rw [← r.length]; exact lim_line hz, fun p hp => out_new o rep hp fun e => .lst upd_same (r.ext e)⟩
  · exact o.elim
/-! ### calls of built-ins -/
noncomputable def CallM (X : Cx) (E : EK) (f : Value) (g : List W → Store → Res W) : Prop := CallR X f (fun vs H Q => ∃ ρ S ws, RepS X.K X.mg ρ H S ∧ RWs X.K X.mg ρ H ws vs ∧ Out X.K X.mg (RW X.K X.mg) E ρ H (g ws S) Q)
theorem call_of {g : List W → Store → Res W} {σ : L2.St} {H : Hp} {Q : VK} (h : tE X E (mAp g mr) σ H Q) : tCB (fun vs H Q => ∃ ρ S ws, RepS X.K X.mg ρ H S ∧ RWs X.K X.mg ρ H ws vs ∧ Out X.K X.mg (RW X.K X.mg) E ρ H (g ws S) Q) (tA X E mr) σ H Q :=
  tX.bind h fun ρ1 H1 ws xs s S1 rep env r o => ⟨ρ1, S1, ws, rep, r, o⟩
theorem pm_callB {x : Str} {id : String} {p : Pos} {g : List W → Store → Res W} (hc : CallM X E (.builtin id) g) (hm : X.mg x = none) (ha : PAM X E (a :: es) mr) (hv : bootBuiltins x = some (.builtin id) := by decide +kernel) (hg : Gl X x := by rfl) (hn : x ≠ "__name__" := by decide +kernel) (hdb : (x == ("__debug__" : Str)) = false := by decide +kernel)
    (he : starEach (a :: es) X.env = (false, eval a X.env) :: starEach es X.env := by rfl) (hpl : (backTo pos (starEach es X.env)).any (·.1) = false := by rfl) : PM X E (.Call (.Name x p) (a :: es) [] pos) (mAp g mr) := pe_imp (pe_callB hc hg hm hv ha hn hdb he hpl) fun _ _ _ h => call_of h
theorem pm_callTy {x : Str} {T : String} {p : Pos} {g : List W → Store → Res W} (hc : CallM X E (.type T) g) (hm : X.mg x = none) (ha : PAM X E (a :: es) mr) (hv : bootBuiltins x = some (.type T) := by decide +kernel) (hg : Gl X x := by rfl) (hn : x ≠ "__name__" := by decide +kernel) (hdb : (x == ("__debug__" : Str)) = false := by decide +kernel)
    (he : starEach (a :: es) X.env = (false, eval a X.env) :: starEach es X.env := by rfl) (hpl : (backTo pos (starEach es X.env)).any (·.1) = false := by rfl) : PM X E (.Call (.Name x p) (a :: es) [] pos) (mAp g mr) := pe_imp (pe_callTy hc hg hm hv ha hn hdb he hpl) fun _ _ _ h => call_of h
noncomputable def g1 (g : W → Store → Res W) (ws : List W) (S : Store) : Res W := match ws with
  | [w] => g w S
  | _ => .bad
theorem cm1 {f : Value} {g : W → Store → Res W} (h : ∀ (pins : List (Addr × Obj)) (s : Shared) (σ : L2.St) (H : Hp) (x : V) (us : List Value) (Q : VK) (ρ : RT) (S : Store) (w : W), Inv X pins σ H s → Vals [x] us → RepS X.K X.mg ρ H S → RW X.K X.mg ρ H w x → Out X.K X.mg (RW X.K X.mg) E ρ H (g w S) Q →
    wpAny (model X.prog X.w) X.A (call f us) (EP X pins σ Q) X.xe s) : CallM X E f (g1 g) := by
  intro pins s σ H xs us Q I r ⟨ρ, S, ws, rep, rs, o⟩
  match ws, rs, o with
  | [], _, o => exact o.elim
  | _ :: _ :: _, _, o => exact o.elim
  | [w], rs, o =>
    obtain ⟨x, rfl, rw⟩ := rs.one
    exact h pins s σ H x us Q ρ S w I r rep rw o
/-- len -/
noncomputable def gLen (w : W) (S : Store) : Res W := match w with
  | .str x => if x.length ≤ lim then .ok (.int x.length) S else .bad
  | .tup ws => .ok (.int ws.length) S
  | w => match seqL S w with
    | some ws => .ok (.int ws.length) S
    | none => .bad
theorem cm_len : CallM X E (.builtin "len") (g1 gLen) := cm1 fun pins s σ H x us Q ρ S w I r rep rw o => by
  have lists : (∀ ws, seqL S w = some ws → gLen w S = .ok (.int ws.length) S) → (seqL S w = none → gLen w S = .bad) → wpAny (model X.prog X.w) X.A (call (.builtin "len") us) (EP X pins σ Q) X.xe s := fun h1 h2 => by
    cases e : seqL S w with
    | none => rw [h2 e] at o; exact o.elim
    | some ws =>
      rw [h1 ws e] at o
      obtain ⟨a, vs, rfl, hl, hr⟩ := seqL_of rep rw e
      rw [hr.length] at o
      exact call_len_seq pins s σ H _ us Q I r ⟨a, vs, rfl, .inl hl, Out.here o rep (.int _)⟩
  cases w with
  | str z =>
    have o : Out X.K X.mg (RW X.K X.mg) E ρ H (if z.length ≤ lim then Res.ok (W.int z.length) S else Res.bad) Q := o
    split at o
    · rename_i hz
      cases rw
      exact call_len_str pins s σ H _ us Q I r ⟨z, rfl, lim_line hz, Out.here o rep (.int _)⟩
    · exact o.elim
  | tup ws =>
    cases rw with
    | tup hf hr =>
      have o : Out X.K X.mg (RW X.K X.mg) E ρ H (Res.ok (W.int ws.length) S) Q := o
      rw [hr.length] at o
      exact call_len_seq pins s σ H _ us Q I r ⟨_, _, rfl, .inr (sqT_of hf), Out.here o rep (.int _)⟩
  | lst ws => exact lists (fun ws e => by simp only [gLen, e]) (fun e => by simp only [gLen, e])
  | flst ws => exact lists (fun ws e => by simp only [gLen, e]) (fun e => by simp only [gLen, e])
  | ref l => exact lists (fun ws e => by simp only [gLen, e]) (fun e => by simp only [gLen, e])
  | _ => exact o.elim
/-- int(n), int(flag) -/
noncomputable def gInt (w : W) (S : Store) : Res W := match w with
  | .int i => .ok (.int i) S
  | .bl b => .ok (.int (if b then 1 else 0)) S
  | _ => .bad
theorem cm_int : CallM X E (.type "int") (g1 gInt) := cm1 fun pins s σ H x us Q ρ S w I r rep rw o => by
  cases w with
  | int i => cases rw; exact call_int1 pins s σ H _ us Q I r (.inl ⟨i, rfl, Out.here (w := W.int _) o rep (.int _)⟩)
  | bl b => cases rw; exact call_int1 pins s σ H _ us Q I r (.inr ⟨b, rfl, Out.here (w := W.int _) o rep (.int _)⟩)
  | _ => exact o.elim
/-- list(x), tuple(x) of a list or tuple -/
noncomputable def seqA (S : Store) (w : W) : Option (List W) := (tupL w).or (seqL S w)
theorem seqA_of {K : PySem.W.Frag} {mg : Str → Option Value} {ρ : RT} {H : Hp} {S : Store} {w : W} {x : V} {ws : List W} (rep : RepS K mg ρ H S) (r : RW K mg ρ H w x) (h : seqA S w = some ws) : ∃ a vs, x = .ref a ∧ (SqL K H a vs ∨ SqT K H a vs) ∧ RWs K mg ρ H ws vs ∧ (w ≠ .tup ws → SqL K H a vs) ∧ (w = .tup ws → SqT K H a vs) := by
  cases w with
  | tup us =>
    cases (Option.some.inj h : us = ws)
    cases r with | tup hf hr => exact ⟨_, _, rfl, .inr (sqT_of hf), hr, fun n => absurd rfl n, fun _ => sqT_of hf⟩
  | _ => obtain ⟨a, vs, rfl, hs, hr⟩ := seqL_of rep r (by simpa [seqA, tupL] using h); exact ⟨a, vs, rfl, .inl hs, hr, fun _ => hs, fun z => by cases z⟩
noncomputable def gListOf (w : W) (S : Store) : Res W := match seqA S w with
  | some ws => .ok (.lst ws) S
  | none => .bad
theorem cm_list : CallM X E (.type "list") (g1 gListOf) := cm1 fun pins s σ H x us Q ρ S w I r rep rw o => by
  unfold gListOf at o
  cases e : seqA S w with
  | none => rw [e] at o; exact o.elim
  | some ws =>
    rw [e] at o
    obtain ⟨a, vs, rfl, hl, hr, _⟩ := seqA_of rep rw e
    exact call_list_of pins s σ H _ us Q I r ⟨a, vs, rfl, hl, fun p hp => out_lst o rep hp hr⟩
/-- all(xs), any(xs), xs a list of bools -/
noncomputable def blsW : List W → Option (List Bool)
  | [] => some []
  | .bl b :: r => (blsW r).map (b :: ·)
  | _ => none
theorem blsW_of {K : PySem.W.Frag} {mg : Str → Option Value} {ρ : RT} {H : Hp} : ∀ {ws : List W} {vs : List V} {bs : List Bool}, RWs K mg ρ H ws vs → blsW ws = some bs → vs = bs.map V.bl
  | _, _, _, .nil, h => by cases (Option.some.inj h : [] = _); rfl
  | _, _, _, .cons (w := w) (ws := ws) r t, h => by
    cases w with
    | bl b =>
      cases e : blsW ws with
      | none => simp [blsW, e] at h
      | some bs =>
        simp [blsW, e] at h
        subst h
        cases r
        rw [blsW_of t e]
        rfl
    | _ => cases h
noncomputable def gAll (w : W) (S : Store) : Res W := match (seqL S w).bind blsW with
  | some bs => .ok (.bl (bs.all id)) S
  | none => .bad
theorem bls_at {K : PySem.W.Frag} {mg : Str → Option Value} {ρ : RT} {H : Hp} {S : Store} {w : W} {x : V} {bs : List Bool} (rep : RepS K mg ρ H S) (r : RW K mg ρ H w x) (h : (seqL S w).bind blsW = some bs) : ∃ a, x = .ref a ∧ SqL K H a (bs.map V.bl) := by
  cases e : seqL S w with
  | none => rw [e] at h; cases h
  | some ws =>
    rw [e] at h
    obtain ⟨a, vs, rfl, hl, hr⟩ := seqL_of rep r e
    rw [blsW_of hr h] at hl
    exact ⟨a, rfl, hl⟩
theorem cm_all (hc : X.calm = true) : CallM X E (.builtin "all") (g1 gAll) := cm1 fun pins s σ H x us Q ρ S w I r rep rw o => by
  unfold gAll at o
  cases e : (seqL S w).bind blsW with
  | none => rw [e] at o; exact o.elim
  | some bs =>
    rw [e] at o
    obtain ⟨a, rfl, hl⟩ := bls_at rep rw e
    exact cr_all hc pins s σ H _ us Q I r ⟨a, bs, rfl, hl, Out.here o rep (.bl _)⟩
end
/-! ### isinstance -/
/-- the type of a value -/
noncomputable def tyOf (S : Store) : W → Option W
  | .non => some (.ty "NoneType")
  | .bl _ => some (.ty "bool")
  | .int _ => some (.ty "int")
  | .str _ => some (.ty "str")
  | .tup _ => some (.ty "tuple")
  | .lst _ => some (.ty "list")
  | .flst _ => some (.ty "list")
  | .dic _ _ => some (.ty "dict")
  | .ins c _ _ => some (.gl c)
  | .ref l => match S[l]? with
    | some (.lst _) => some (.ty "list")
    | some (.dic _ _) => some (.ty "dict")
    | some (.ins c _ _) => some (.gl c)
    | some (.tab _) => none
    | none => none
  | _ => none
inductive TyVal (mg : Str → Option Value) : W → Value → Prop where
  | ty (n : String) : TyVal mg (.ty n) (.type n)
  | gl {x : Str} {a : Addr} (h : mg x = some (.ref a)) : TyVal mg (.gl x) (.ref a)
/-- whether a value of the type t is one of c; the answers that are known -/
noncomputable abbrev KT := W → W → Option Bool
structure KtOk (K : PySem.W.Frag) (mg : Str → Option Value) (kt : KT) : Prop where
  one : ∀ t c b tv cv, kt t c = some b → TyVal mg t tv → TyVal mg c cv → PySem.W.kitOne K tv cv = some b
  ins : ∀ c C, mg c = some (.ref C) → (∃ d b, kt (.gl c) d = some b) → Cls K C ∧ PySem.W.findIn K (.ref C) "__class__" = some (some (.builtin "object.__class__")) ∧
    PySem.W.specialIn K (.builtin "object.__class__") "__get__" = some (some (.builtin "getset_descriptor.__get__")) ∧ PySem.W.takesIn K (.builtin "object.__class__") = some true ∧ PySem.W.mroIn K C (.type "object") = some true
noncomputable def ktAny (kt : KT) (t : W) : List W → Option Bool
  | [] => some false
  | c :: cs => match kt t c with
    | some true => some true
    | some false => ktAny kt t cs
    | none => none
/-- the built-in types among one another -/
noncomputable def ktB : KT
  | .ty a, .ty b => if a ∈ ["NoneType", "bool", "int", "str", "tuple", "list", "dict"] ∧ b ∈ ["bool", "int", "str", "tuple", "list", "dict"] then some (a == b || (a == "bool" && b == "int")) else none
  | _, _ => none
theorem kitB_all : ∀ a ∈ ["NoneType", "bool", "int", "str", "tuple", "list", "dict"], ∀ b ∈ ["bool", "int", "str", "tuple", "list", "dict"], kitB a b = some (a == b || (a == "bool" && b == "int")) := by decide +kernel
theorem ktB_ok {K : PySem.W.Frag} {mg : Str → Option Value} : KtOk K mg ktB where
  one := fun t c b tv cv h ht hc => by
    cases ht with
    | ty n =>
      cases hc with
      | ty m =>
        unfold ktB at h
        dsimp only at h
        split at h
        · rename_i hz
          cases (Option.some.inj h)
          exact kit_ty (kitB_all n hz.1 m hz.2)
        · cases h
      | gl _ => cases h
    | gl _ => cases h
  ins := fun c C _ ⟨d, b, h⟩ => by cases h
noncomputable def isCls : W → Bool
  | .ty _ | .gl _ => true
  | _ => false
noncomputable def gIsi1 (kt : KT) (w c : W) (S : Store) : Res W := match tyOf S w with
  | none => .bad
  | some t => if isCls c = true then (match kt t c with
      | some b => .ok (.bl b) S
      | none => .bad) else match tupL c with
    | some (d :: ds) => if (d :: ds).all isCls = true then (match kt t d, ktAny kt t (d :: ds) with
      | some _, some b => .ok (.bl b) S
      | _, _ => .bad) else .bad
    | _ => .bad
noncomputable def gIsi (kt : KT) (ws : List W) (S : Store) : Res W := match ws with
  | [w, c] => gIsi1 kt w c S
  | _ => .bad
section
variable {K : PySem.W.Frag} {mg : Str → Option Value} {ρ : RT} {H : Hp} {S : Store}
theorem tyOf_of {kt : KT} (T : KtOk K mg kt) {w : W} {x : V} {t d : W} {b : Bool} (rep : RepS K mg ρ H S) (r : RW K mg ρ H w x) (h : tyOf S w = some t) (hk : kt t d = some b) : ∃ tv, TyVal mg t tv ∧ TyX K H x tv := by
  cases w with
  | non => cases r; cases h; exact ⟨_, .ty _, .base .non⟩
  | bl b => cases r; cases h; exact ⟨_, .ty _, .base (.bl _)⟩
  | int b => cases r; cases h; exact ⟨_, .ty _, .base (.int _)⟩
  | str b => cases r; cases h; exact ⟨_, .ty _, .base (.str _)⟩
  | tup ws =>
    cases h
    cases r with
    | tup hf hr =>
      rcases hf with hf | ⟨o, its, n, h1, h2, _⟩
      · exact ⟨_, .ty _, .base (.tup hf.1)⟩
      · exact ⟨_, .ty _, .kTuple h1 h2⟩
  | lst ws => cases h; cases r with | lst hf hr => exact ⟨_, .ty _, .base (.lst hf.1)⟩
  | flst ws =>
    cases h
    cases r with
    | flst hf hr =>
      rcases hf with ⟨o, hf⟩ | ⟨o, its, n, h1, h2, _⟩
      · exact ⟨_, .ty _, .base (.frz hf.1)⟩
      · exact ⟨_, .ty _, .kList h1 h2⟩
  | dic ks ws => cases h; cases r with | dic hf hl hr => exact ⟨_, .ty _, .base (.dK hf.1)⟩
  | ins c ns ws =>
    cases h
    cases r with
    | ins hc hf hl hr =>
      obtain ⟨h1, h2, h3, h4, h5⟩ := T.ins _ _ hc ⟨_, _, hk⟩
      exact ⟨_, .gl hc, .base (.ins hf.1 h1 h2 h3 h4 h5)⟩
  | ref l =>
    cases r with
    | ref hl =>
      cases e : S[l]? with
      | none => simp [tyOf, e] at h
      | some ob =>
        obtain ⟨a, h1, h2⟩ := rep.ob l _ e
        rw [hl] at h1; cases h1
        cases h2 with
        | lst h3 h4 => simp [tyOf, e] at h; subst h; exact ⟨_, .ty _, .base (.lst h3)⟩
        | dic h3 h4 h5 => simp [tyOf, e] at h; subst h; exact ⟨_, .ty _, .base (.dK h3)⟩
        | ins hc h3 h4 h5 =>
          simp [tyOf, e] at h; subst h
          obtain ⟨g1, g2, g3, g4, g5⟩ := T.ins _ _ hc ⟨_, _, hk⟩
          exact ⟨_, .gl hc, .base (.ins h3 g1 g2 g3 g4 g5)⟩
        | tab _ _ _ _ => simp [tyOf, e] at h
  | _ => cases h
theorem clsV_of {c : W} {x : V} (r : RW K mg ρ H c x) {kt : KT} {t : W} {b : Bool} (T : KtOk K mg kt) (hc : (∃ n, c = .ty n) ∨ ∃ n, c = .gl n) : ∃ cv, TyVal mg c cv ∧ ClsV x cv := by
  rcases hc with ⟨n, rfl⟩ | ⟨n, rfl⟩
  · cases r; exact ⟨_, .ty n, .ty n⟩
  · cases r with | gl h => exact ⟨_, .gl h, .own _⟩
theorem ktAny_of {kt : KT} (T : KtOk K mg kt) {t : W} {tv : Value} (ht : TyVal mg t tv) : ∀ {cs : List W} {xs : List V} {b : Bool}, RWs K mg ρ H cs xs → (∀ c ∈ cs, (∃ n, c = .ty n) ∨ ∃ n, c = .gl n) → ktAny kt t cs = some b → ∃ cvs, Paired ClsV xs cvs ∧ PySem.W.kitAny K tv cvs = some b
  | _, _, b, .nil, _, h => by cases (Option.some.inj h : false = b); exact ⟨[], .nil, kitAny_nil⟩
  | _, _, b, .cons (w := c) (ws := cs) (vs := vs') r rs, hk, h => by
    obtain ⟨cv, h1, h2⟩ := clsV_of (kt := kt) (t := t) (b := b) r T (hk c List.mem_cons_self)
    unfold ktAny at h
    cases e : kt t c with
    | none => rw [e] at h; cases h
    | some k =>
      have hone := T.one t c k tv cv e ht h1
      have rest : ∃ cvs, Paired ClsV vs' cvs ∧ (k = false → PySem.W.kitAny K tv cvs = some b) := by
        cases k with
        | false =>
          rw [e] at h
          obtain ⟨cvs, p1, p2⟩ := ktAny_of T ht rs (fun c hc => hk c (List.mem_cons_of_mem _ hc)) h
          exact ⟨cvs, p1, fun _ => p2⟩
        | true =>
          have : ∀ {cs : List W} {xs : List V}, RWs K mg ρ H cs xs → (∀ c ∈ cs, (∃ n, c = .ty n) ∨ ∃ n, c = .gl n) → ∃ cvs, Paired ClsV xs cvs := by
            intro cs xs r hk
            induction cs generalizing xs with
            | nil => cases r; exact ⟨[], .nil⟩
            | cons c cs ih =>
              cases r with
              | cons r1 r2 =>
                obtain ⟨cv, _, z⟩ := clsV_of (kt := kt) (t := t) (b := b) r1 T (hk c List.mem_cons_self)
                obtain ⟨cvs, zs⟩ := ih r2 fun c hc => hk c (List.mem_cons_of_mem _ hc)
                exact ⟨cv :: cvs, .cons z zs⟩
          obtain ⟨cvs, p1⟩ := this rs fun c hc => hk c (List.mem_cons_of_mem _ hc)
          exact ⟨cvs, p1, fun z => by cases z⟩
      obtain ⟨cvs, p1, p2⟩ := rest
      refine ⟨cv :: cvs, .cons h2 p1, kitAny_cons hone p2 fun z => ?_⟩
      subst z
      rw [e] at h
      exact (Option.some.inj h).symm
end
theorem isCls_of {c : W} (h : isCls c = true) : (∃ n, c = .ty n) ∨ ∃ n, c = .gl n := by
  cases c with
  | ty n => exact .inl ⟨n, rfl⟩
  | gl n => exact .inr ⟨n, rfl⟩
  | _ => cases h
section
variable {X : Cx} {E : EK}
/-- the classes are built-in types or classes of the module -/
theorem cm_isi {kt : KT} (T : KtOk X.K X.mg kt) : CallM X E (.builtin "isinstance") (gIsi kt) := by
  intro pins s σ H xs us Q I r ⟨ρ, S, ws, rep, rs, o⟩
  match ws, rs, o with
  | [], _, o => exact o.elim
  | [_], _, o => exact o.elim
  | _ :: _ :: _ :: _, _, o => exact o.elim
  | [w, c], rs, o =>
    obtain ⟨x, y, rfl, r1, r2⟩ := rs.two
    have o : Out X.K X.mg (RW X.K X.mg) E ρ H (gIsi1 kt w c S) Q := o
    unfold gIsi1 at o
    cases e1 : tyOf S w with
    | none => rw [e1] at o; exact o.elim
    | some t =>
      rw [e1] at o
      dsimp only at o
      split at o
      · rename_i hc
        cases e3 : kt t c with
        | none => rw [e3] at o; exact o.elim
        | some b =>
          rw [e3] at o
          obtain ⟨tv, h1, h2⟩ := tyOf_of T rep r1 e1 e3
          obtain ⟨cv, h3, h4⟩ := clsV_of (kt := kt) (t := t) (b := b) r2 T (isCls_of hc)
          exact call_isi pins s σ H _ us Q I r ⟨x, y, tv, cv, b, rfl, h4, h2, T.one t c b tv cv e3 h1 h3, Out.here o rep (.bl _)⟩
      · cases c with
        | tup cs =>
          cases cs with
          | nil => exact o.elim
          | cons d ds =>
            have o : Out X.K X.mg (RW X.K X.mg) E ρ H (if (d :: ds).all isCls = true then (match kt t d, ktAny kt t (d :: ds) with
              | some _, some b => .ok (.bl b) S
              | _, _ => .bad) else .bad) Q := o
            split at o
            · rename_i hall
              cases e2 : kt t d with
              | none => rw [e2] at o; exact o.elim
              | some k =>
                cases e3 : ktAny kt t (d :: ds) with
                | none => rw [e2, e3] at o; exact o.elim
                | some b =>
                  rw [e2, e3] at o
                  obtain ⟨tv, h1, h2⟩ := tyOf_of T rep r1 e1 e2
                  cases r2 with
                  | tup hf hr =>
                    obtain ⟨cvs, h3, h4⟩ := ktAny_of T h1 hr (fun c hc => isCls_of (List.all_eq_true.mp hall c hc)) e3
                    rcases hf with hf | ⟨ob, its, n, g1, g2, g3, g4, g5⟩
                    · exact call_isiT pins s σ H _ us Q I r ⟨x, _, _, tv, cvs, b, rfl, hf.1, h3, h2, h4, Out.here o rep (.bl _)⟩
                    · have ee : its.toList = cvs := ClsV.all h3 g5
                      subst ee
                      obtain ⟨oc, od, dt, sl⟩ := ob
                      simp only at g2 g3
                      subst g2 g3
                      exact call_isiK pins s σ H _ us Q I r ⟨x, _, od, its.toList, n, sl, tv, b, rfl, by simpa using g1, h2, h4, Out.here o rep (.bl _)⟩
            · exact o.elim
        | _ => exact o.elim
end
end RL
end
section
set_option maxRecDepth 100000
set_option maxHeartbeats 2000000
namespace RL
open PySem PySem.Spec L2
open PyProof.Rows hiding St
variable [Lams]
/-! ### statements -/
inductive Fl where
  | nx | rt (w : W) | bk | ct
noncomputable abbrev SS := SM (Fl × Env')
section
variable (K : PySem.W.Frag) (mg : Str → Option Value)
noncomputable def OutS (E : EK) (ρ : RT) (H : Hp) (r : Res (Fl × Env')) (D : Ends) : Prop := match r with
  | .ok (f, s') S' => match f with
    | .nx => ∀ ρ' H' σ', Ext ρ H ρ' H' → RepS K mg ρ' H' S' → REnv K mg ρ' H' E s' σ' → D.nx σ' H'
    | .rt w => ∀ ρ' H' v, Ext ρ H ρ' H' → RepS K mg ρ' H' S' → RW K mg ρ' H' w v → D.rt v H'
    | .bk => ∀ ρ' H' σ', Ext ρ H ρ' H' → RepS K mg ρ' H' S' → REnv K mg ρ' H' E s' σ' → D.bk σ' H'
    | .ct => ∀ ρ' H' σ', Ext ρ H ρ' H' → RepS K mg ρ' H' S' → REnv K mg ρ' H' E s' σ' → D.ct σ' H'
  | .exc c ns ws S => ExcOut K mg E ρ H c ns ws S
  | .bad => False
end
noncomputable def tS (X : Cx) (E : EK) (m : SS) : TS := fun D σ H => ∃ ρ s S, RepS X.K X.mg ρ H S ∧ REnv X.K X.mg ρ H E s σ ∧ OutS X.K X.mg E ρ H (m s S) D
noncomputable def PSM (X : Cx) (E : EK) (st : Stmt) (m : SS) : Prop := PS X st (tS X E m)
noncomputable def PSsM (X : Cx) (E : EK) (st : List Stmt) (m : SS) : Prop := PSs X st (tS X E m)
theorem ps_imp {X : Cx} {st : Stmt} {t t' : TS} (h : PS X st t) (f : ∀ D σ H, t' D σ H → t D σ H) : PS X st t' := ⟨fun pins s σ H D I q => h.run pins s σ H D I (f D σ H q)⟩
theorem pss_imp {X : Cx} {st : List Stmt} {t t' : TS} (h : PSs X st t) (f : ∀ D σ H, t' D σ H → t D σ H) : PSs X st t' := ⟨fun pins s σ H D I q => h.run pins s σ H D I (f D σ H q)⟩
section
variable {K : PySem.W.Frag} {mg : Str → Option Value} {ρ ρ' : RT} {H H' : Hp} {E : EK} {α β : Type}
theorem OutS.ext {r : Res (Fl × Env')} {D : Ends} (e : Ext ρ H ρ' H') (h : OutS K mg E ρ H r D) : OutS K mg E ρ' H' r D := by
  cases r with
  | ok p S =>
    obtain ⟨f, s'⟩ := p
    cases f with
    | nx => exact fun ρ2 H2 σ2 x => h ρ2 H2 σ2 (e.trans x)
    | rt w => exact fun ρ2 H2 σ2 x => h ρ2 H2 σ2 (e.trans x)
    | bk => exact fun ρ2 H2 σ2 x => h ρ2 H2 σ2 (e.trans x)
    | ct => exact fun ρ2 H2 σ2 x => h ρ2 H2 σ2 (e.trans x)
  | exc c ns ws S => exact ExcOut.ext e h
  | bad => exact h
/-- an expression's (target's) part ahead of the rest of a statement -/
theorem OutS.bind {R : Rl β α} {r : Res α} {k : α → Store → Res (Fl × Env')} {D : Ends} {Z : β → Hp → Prop} (h : OutS K mg E ρ H (r.bind k) D)
    (f : ∀ ρ1 H1 a b S1, Ext ρ H ρ1 H1 → RepS K mg ρ1 H1 S1 → R ρ1 H1 a b → OutS K mg E ρ1 H1 (k a S1) D → Z b H1) : Out K mg R E ρ H r Z := by
  cases r with
  | ok w S => exact fun ρ1 H1 v e rep rw => f ρ1 H1 w v S e rep rw (OutS.ext e h)
  | exc c ns ws S => exact h
  | bad => exact h
end
theorem tS.bind {X : Cx} {E : EK} {α β : Type} {R : Rl β α} {m : SM α} {k : α → SS} {D : Ends} {σ : L2.St} {H : Hp} {Z : β → Hp → Prop} (h : tS X E (fun s S => (m s S).bind fun a => k a s) D σ H)
    (f : ∀ ρ1 H1 a b s S1, RepS X.K X.mg ρ1 H1 S1 → REnv X.K X.mg ρ1 H1 E s σ → R ρ1 H1 a b → OutS X.K X.mg E ρ1 H1 (k a s S1) D → Z b H1) : tX X.K X.mg R E m σ H Z := by
  obtain ⟨ρ, s, S, rep, env, o⟩ := h
  exact ⟨ρ, s, S, rep, env, OutS.bind o fun ρ1 H1 a b S1 e rep1 r o1 => f ρ1 H1 a b s S1 rep1 (env.ext e) r o1⟩
theorem OutS.nx {X : Cx} {E : EK} {ρ : RT} {H : Hp} {s : Env'} {S : Store} {D : Ends} {σ : L2.St} (o : OutS X.K X.mg E ρ H (.ok (.nx, s) S) D) (rep : RepS X.K X.mg ρ H S) (env : REnv X.K X.mg ρ H E s σ) : D.nx σ H := o ρ H σ (Ext.refl _ _) rep env
noncomputable def mSkip : SS := fun s S => .ok (.nx, s) S
noncomputable def mSeq (m ms : SS) : SS := fun s S => (m s S).bind fun p S1 => match p with
  | (.nx, s1) => ms s1 S1
  | p => .ok p S1
section
variable {X : Cx} {E : EK} {pos : Pos} {st : Stmt} {sts : List Stmt} {m ms : SS} {a : Expr} {ma : SM W}
theorem psm_nil : PSsM X E [] mSkip := pss_imp pss_nil fun D σ H ⟨ρ, s, S, rep, env, o⟩ => OutS.nx o rep env
theorem psm_cons (h : PSM X E st m) (hs : PSsM X E sts ms) : PSsM X E (st :: sts) (mSeq m ms) := pss_imp (pss_cons h hs) fun D σ H ⟨ρ, s, S, rep, env, o⟩ => by
  refine ⟨ρ, s, S, rep, env, ?_⟩
  unfold mSeq at o
  cases e : m s S with
  | ok p S1 =>
    obtain ⟨f, s1⟩ := p
    rw [e] at o
    cases f with
    | nx => exact fun ρ1 H1 σ1 x rep1 env1 => ⟨ρ1, s1, S1, rep1, env1, OutS.ext x o⟩
    | rt w => exact o
    | bk => exact o
    | ct => exact o
  | exc c ns ws S1 => rw [e] at o; exact o
  | bad => rw [e] at o; exact o
theorem psm_one (h : PSM X E st m) : PSsM X E [st] m := pss_imp (pss_one h) fun D σ H q => q
noncomputable def mExpr (ma : SM W) : SS := fun s S => (ma s S).bind fun _ S1 => .ok (.nx, s) S1
theorem psm_expr (ha : PM X E a ma) (hs : swapsWith a none pos.line X.env = pure false := by rfl) : PSM X E (.Expr a pos) (mExpr ma) :=
  ps_imp (ps_expr ha hs) fun D σ H h => tS.bind h fun ρ1 H1 w x s S1 rep env r o => OutS.nx o rep env
noncomputable def mRet (ma : SM W) : SS := fun s S => (ma s S).bind fun w S1 => .ok (.rt w, s) S1
theorem psm_ret (ha : PM X E a ma) : PSM X E (.Return (some a) pos) (mRet ma) := ps_imp (ps_ret ha) fun D σ H h => tS.bind h fun ρ1 H1 w x s S1 rep env r o => o ρ1 H1 x (Ext.refl _ _) rep r
noncomputable def mIf (nc : SM Bool) (m ms : SS) : SS := fun s S => (nc s S).bind fun b S1 => if b = true then m s S1 else ms s S1
theorem psm_if {c : Expr} {nc : SM Bool} {A B : List Stmt} (hc : PTM X E c nc) (ha : PSsM X E A m) (hb : PSsM X E B ms) : PSM X E (.If c A B pos) (mIf nc m ms) :=
  ps_imp (ps_if hc ha hb) fun D σ H h => tS.bind h fun ρ1 H1 k k' s S1 rep env r o => by
    cases r
    cases k with
    | true => rw [if_pos rfl] at o; rw [if_pos rfl]; exact ⟨ρ1, s, S1, rep, env, o⟩
    | false => rw [if_neg Bool.false_ne_true] at o; rw [if_neg Bool.false_ne_true]; exact ⟨ρ1, s, S1, rep, env, o⟩
end
theorem Out.conv {K : PySem.W.Frag} {mg : Str → Option Value} {α β : Type} {R R' : Rl β α} {E : EK} {ρ : RT} {H : Hp} {r : Res α} {Q : β → Hp → Prop} (h : Out K mg R E ρ H r Q) (f : ∀ ρ1 H1 a b, R' ρ1 H1 a b → R ρ1 H1 a b) : Out K mg R' E ρ H r Q := by
  cases r with
  | ok w S => exact fun ρ1 H1 v e rep rr => h ρ1 H1 v e rep (f _ _ _ _ rr)
  | exc c ns ws S => exact h
  | bad => exact h
/-! ### targets; vs: the slots that a target may change -/
noncomputable abbrev GM := W → Env' → Store → Res Env'
noncomputable def tG (X : Cx) (E : EK) (vs : List Nat) (g : GM) : TG := fun v σ H Q => ∃ ρ s S w, RepS X.K X.mg ρ H S ∧ REnv X.K X.mg ρ H E s σ ∧ RW X.K X.mg ρ H w v ∧ Out X.K X.mg (fun ρ H s' σ' => REnv X.K X.mg ρ H E s' σ' ∧ wipe σ' vs = wipe σ vs) E ρ H (g w s S) Q
noncomputable def PGM (X : Cx) (E : EK) (tg : Expr) (vs : List Nat) (g : GM) : Prop := PG X tg (tG X E vs g)
noncomputable abbrev GMs := List W → Env' → Store → Res Env'
noncomputable def tGs (X : Cx) (E : EK) (vs : List Nat) (g : GMs) : TGs := fun v σ H Q => ∃ ρ s S w, RepS X.K X.mg ρ H S ∧ REnv X.K X.mg ρ H E s σ ∧ RWs X.K X.mg ρ H w v ∧ Out X.K X.mg (fun ρ H s' σ' => REnv X.K X.mg ρ H E s' σ' ∧ wipe σ' vs = wipe σ vs) E ρ H (g w s S) Q
noncomputable def PGsM (X : Cx) (E : EK) (tg : List Expr) (vs : List Nat) (g : GMs) : Prop := PGs X tg (tGs X E vs g)
theorem pg_imp {X : Cx} {e : Expr} {t t' : TG} (h : PG X e t) (f : ∀ v σ H Q, t' v σ H Q → t v σ H Q) : PG X e t' := ⟨fun pins s σ H v u Q I r q => h.run pins s σ H v u Q I r (f v σ H Q q)⟩
theorem pgs_imp {X : Cx} {e : List Expr} {t t' : TGs} (h : PGs X e t) (f : ∀ v σ H Q, t' v σ H Q → t v σ H Q) : PGs X e t' := ⟨fun pins s σ H v u Q I r q => h.run pins s σ H v u Q I r (f v σ H Q q)⟩
theorem wipe_set {σ : L2.St} {i : Nat} {o : Option V} : ∀ {vs : List Nat}, i ∈ vs → wipe (σ.set i o) vs = wipe σ vs
  | v :: vs, h => by
    unfold wipe
    by_cases e : i = v
    · subst e
      by_cases hm : i ∈ vs
      · rw [wipe_set hm]
      · have : ∀ {vs : List Nat}, i ∉ vs → wipe (σ.set i o) vs = (wipe σ vs).set i o := by
          intro vs hn
          induction vs with
          | nil => rfl
          | cons k r ih =>
            unfold wipe
            rw [ih fun z => hn (List.mem_cons_of_mem _ z), List.set_comm _ _ (fun z => hn (by first | (rw [z]; exact List.mem_cons_self) | (rw [← z]; exact List.mem_cons_self)))]
        rw [this hm, List.set_set]
    · rw [wipe_set ((List.mem_cons.mp h).resolve_left e)]
noncomputable def gNm (i : Nat) : GM := fun w s S => .ok (s.set i (some w)) S
section
variable {X : Cx} {E : EK} {pos : Pos} {a b o i : Expr} {ma mo mi : SM W} {vs : List Nat}
theorem pgm_name (i : Nat) {x : Str} (hN : X.N.Nodup) (hm : i ∈ vs := by simp) (hi : X.N[i]? = some x := by rfl) (hx : Loc X.env.scope x := by first | exact Or.inl rfl | exact Or.inr rfl) (hf : X.fn x = true ∨ X.env.scope.names.lookup x = some .local := by first | exact .inl rfl | exact .inr rfl) : PGM X E (.Name x pos) vs (gNm i) :=
  pg_imp (pg_name hN hi hx hf) fun v σ H Q ⟨ρ, s, S, w, rep, env, r, o⟩ => Out.here o rep ⟨env.set i r, wipe_set hm⟩
noncomputable def gNil : GMs := fun ws s S => match ws with
  | [] => .ok s S
  | _ => .bad
noncomputable def gCons (g : GM) (gs : GMs) : GMs := fun ws s S => match ws with
  | w :: r => (g w s S).bind fun s1 S1 => gs r s1 S1
  | [] => .bad
theorem pgm_nil : PGsM X E [] vs gNil := pgs_imp pgs_nil fun v σ H Q ⟨ρ, s, S, w, rep, env, r, o⟩ => by
  cases r with
  | nil => exact ⟨rfl, Out.here o rep ⟨env, rfl⟩⟩
  | cons _ _ => exact o.elim
theorem pgm_cons {e : Expr} {es : List Expr} {g : GM} {gs : GMs} (h1 : PGM X E e vs g) (h2 : PGsM X E es vs gs) (hs : (assignEach (e :: es) X.env).map (·.2) = assign e X.env :: (assignEach es X.env).map (·.2) := by rfl) : PGsM X E (e :: es) vs (gCons g gs) :=
  pgs_imp (pgs_cons h1 h2 hs) fun v σ H Q ⟨ρ, s, S, w, rep, env, r, o⟩ => by
    cases r with
    | nil => exact o.elim
    | cons r rs =>
      refine ⟨_, _, rfl, ρ, s, S, _, rep, env, r, Out.bind o fun ρ1 H1 s1 σ1 S1 e rep1 hh o1 => ⟨ρ1, s1, S1, _, rep1, hh.1, rs.ext e, ?_⟩⟩
      exact o1.conv fun ρ2 H2 s2 σ2 h2 => ⟨h2.1, h2.2.trans hh.2⟩
/-- a, b, .. = a tuple of that length -/
noncomputable def gTp (n : Nat) (gs : GMs) : GM := fun w s S => match w with
  | .tup ws => if ws.length = n then gs ws s S else .bad
  | _ => .bad
theorem pgm_tup {es : List Expr} {k n : Nat} {gs : GMs} (hc : X.calm = true) (h : PGsM X E es vs gs) (hn : (assignEach es X.env).length = n := by rfl) (hst : (assignEach es X.env).findIdx? (·.1) = none := by rfl) : PGM X E (.Tuple es k pos) vs (gTp n gs) :=
  pg_imp (pg_tup hc h hn hst) fun v σ H Q ⟨ρ, s, S, w, rep, env, r, o⟩ => by
    cases w with
    | tup ws =>
      cases r with
      | tup hf hr =>
        have o : Out X.K X.mg (fun ρ H s' σ' => REnv X.K X.mg ρ H E s' σ' ∧ wipe σ' vs = wipe σ vs) E ρ H (if ws.length = n then gs ws s S else .bad) Q := o
        split at o
        · rename_i hz; exact ⟨_, _, rfl, sqT_of hf, by rw [← hr.length]; exact hz, ρ, s, S, ws, rep, env, hr, o⟩
        · exact o.elim
    | _ => exact o.elim
noncomputable def mAsg (ma : SM W) (g : GM) : SS := fun s S => (ma s S).bind fun w S1 => (g w s S1).bind fun s' S2 => .ok (.nx, s') S2
theorem asg_of {g : GM} {D : Ends} {σ : L2.St} {H : Hp} (h : tS X E (mAsg ma g) D σ H) : tAsg (tE X E ma) (tG X E vs g) D σ H :=
  tS.bind h fun ρ1 H1 w x s S1 rep env r o => ⟨ρ1, s, S1, w, rep, env, r, OutS.bind o fun ρ2 H2 s' σ' S2 e rep2 hh o2 => OutS.nx o2 rep2 hh.1⟩
theorem psm_asg {tg : Expr} {g : GM} (ha : PM X E a ma) (hg : PGM X E tg vs g) (hs : swapsWithSole [tg] a pos.line X.env = pure false := by rfl) (hw : swappedStores [tg] a X.env = pure none := by rfl) (h1 : (assignEach [tg] X.env).map (·.2) = [assign tg X.env] := by rfl) : PSM X E (.Assign [tg] a pos) (mAsg ma g) :=
  ps_imp (ps_asg ha hg hs hw (h1 := h1)) fun D σ H h => asg_of h
/-- x = e -/
theorem psm_set (i : Nat) {x : Str} {p : Pos} (ha : PM X E a ma) (hN : X.N.Nodup) (hi : X.N[i]? = some x := by rfl) (hx : Loc X.env.scope x := by first | exact Or.inl rfl | exact Or.inr rfl) (hs : swapsWith a (some (.Name x p)) pos.line X.env = pure false := by rfl)
    (hf : X.fn x = true ∨ X.env.scope.names.lookup x = some .local := by first | exact .inl rfl | exact .inr rfl) : PSM X E (.Assign [.Name x p] a pos) (mAsg ma (gNm i)) :=
  ps_imp (ps_set hN hi hx ha hs hf) fun D σ H h => tS.bind h fun ρ1 H1 w x s S1 rep env r o => OutS.nx (s := s.set i (some w)) o rep (env.set i r)
/-- a, b = x, y (plain local names) -/
noncomputable def mPar (i j : Nat) (mr : SM (List W)) : SS := fun s S => (mr s S).bind fun ws S1 => match ws with
  | [v, w] => .ok (.nx, (s.set i (some v)).set j (some w)) S1
  | _ => .bad
theorem psm_par (i j : Nat) {x y : Str} {mr : SM (List W)} {px py pt : Pos} {kt k2 pt2} (hc : X.calm = true) (hN : X.N.Nodup) (ha : PAM X E [a, b] mr) (hi : X.N[i]? = some x := by rfl) (hj : X.N[j]? = some y := by rfl) (hij : i ≠ j := by decide)
    (hx : X.env.scope.names.lookup x = some .local := by rfl) (hy : X.env.scope.names.lookup y = some .local := by rfl)
    (hw : swappedStores [.Tuple [.Name x px, .Name y py] kt pt] (.Tuple [a, b] k2 pt2) X.env = pure (some [x, y]) := by rfl)
    (hs : swapsWithSole [.Tuple [.Name x px, .Name y py] kt pt] (.Tuple [a, b] k2 pt2) pos.line X.env = pure false := by rfl) : PSM X E (.Assign [.Tuple [.Name x px, .Name y py] kt pt] (.Tuple [a, b] k2 pt2) pos) (mPar i j mr) :=
  ps_imp (ps_par hc hN hi hj hij hx hy ha hw hs) fun D σ H h => tS.bind h fun ρ1 H1 ws xs s S1 rep env r o => by
    match ws, r, o with
    | [], _, o => exact o.elim
    | [_], _, o => exact o.elim
    | _ :: _ :: _ :: _, _, o => exact o.elim
    | [v, w], r, o =>
      obtain ⟨v', w', rfl, r1, r2⟩ := r.two
      exact ⟨_, _, rfl, OutS.nx o rep ((env.set i r1).set j r2)⟩
/-- o[i] = e, o a list of the store -/
noncomputable def gSetI (o i v : W) (S : Store) : Res Unit := match o with
  | .ref l => match i with
    | .int k => match S[l]? with
      | some (.lst ws) => match ixN ws.length k with
        | some j => .ok () (S.set l (.lst (ws.set j v)))
        | none => .bad
      | _ => .bad
    | _ => .bad
  | _ => .bad
noncomputable def gSubI (mo mi : SM W) : GM := fun v s S => (mo s S).bind fun o S1 => (mi s S1).bind fun i S2 => (gSetI o i v S2).bind fun _ S3 => .ok s S3
theorem set_all : PSet X (fun o i v H Q => ∃ ρ S w1 w2 w3, RepS X.K X.mg ρ H S ∧ RW X.K X.mg ρ H w1 o ∧ RW X.K X.mg ρ H w2 i ∧ RW X.K X.mg ρ H w3 v ∧ Out X.K X.mg (fun _ _ (_ : Unit) (_ : Unit) => True) E ρ H (gSetI w1 w2 w3 S) (fun _ H' => Q H')) := by
  intro pins s σ H o i v ov iv u Q I ro ri rv ⟨ρ, S, w1, w2, w3, rep, r1, r2, r3, out⟩
  cases w1 with
  | ref l =>
    cases w2 with
    | int k =>
      cases r1 with
      | @ref l a hl =>
        cases e : S[l]? with
        | none => simp only [gSetI, e] at out; exact out.elim
        | some ob =>
          cases ob with
          | lst ws =>
            cases e2 : ixN ws.length k with
            | none => simp only [gSetI, e, e2] at out; exact out.elim
            | some j =>
              simp only [gSetI, e, e2] at out
              obtain ⟨a', h1, h2⟩ := rep.ob l _ e
              rw [hl] at h1; cases h1
              cases h2 with
              | @lst vs _ h3 h4 =>
                cases r2
                refine set_list pins s σ H _ _ _ ov iv u Q I ro ri rv ⟨a, vs, k, j, rfl, rfl, h3, by rw [← h4.length]; exact e2, ?_⟩
                have ma : a ∈ ρ.r := List.mem_of_getElem? hl
                have ex : Ext ρ H ρ (upd H a (.lst (vs.set j v))) := ⟨fun _ _ h => h, fun _ h => h, fun _ h => .inl h, fun b u hb n => by rw [upd_ne fun z : b = a => n (by rw [z]; exact ma)]; exact hb, fun _ h => .inl h, fun b _ hb => by
                  by_cases hz : b = a
                  · subst hz; rw [upd_same]; simp
                  · rw [upd_ne hz]; exact hb, rfl⟩
                obtain ⟨e3, rep3⟩ := rep.wr hl (o := .lst (vs.set j v)) (u := .lst (ws.set j w3)) (.lst upd_same ((h4.set r3 j).ext ex))
                exact out ρ _ () e3 rep3 True.intro
          | _ => simp only [gSetI, e] at out; exact out.elim
    | _ => exact out.elim
  | _ => exact out.elim
theorem pgm_sub (ho : PM X E o mo) (hi : PM X E i mi)
    (ha : ∀ v, assign (.Subscript o i pos) X.env v = (do
      let ov ← holding [v] (eval o X.env)
      let iv ← holding [v, ov] (eval i X.env)
      standAt pos
      holding [v, ov, iv] (setItem ov iv v)
      release [v, ov, iv] []) := by intros; rfl) : PGM X E (.Subscript o i pos) vs (gSubI mo mi) :=
  pg_imp (pg_sub ho hi set_all ha) fun v σ H Q ⟨ρ, s, S, w, rep, env, r, out⟩ => ⟨ρ, s, S, rep, env, Out.bind out fun ρ1 H1 w1 x1 S1 e1 rep1 r1 o1 => ⟨ρ1, s, S1, rep1, env.ext e1, Out.bind o1 fun ρ2 H2 w2 x2 S2 e2 rep2 r2 o2 => ⟨ρ2, S2, w1, w2, w, rep2, r1.ext e2, r2, (r.ext e1).ext e2, Out.bind o2 fun ρ3 H3 _ _ S3 e3 rep3 _ o3 => Out.here o3 rep3 ⟨((env.ext e1).ext e2).ext e3, rfl⟩⟩⟩⟩
/-- x op= e -/
noncomputable def mAug (i : Nat) (g : W → W → Store → Res W) (ma : SM W) : SS := fun s S => match s[i]? with
  | some (some x) => (ma s S).bind fun y S1 => (g x y S1).bind fun z S2 => .ok (.nx, s.set i (some z)) S2
  | _ => .bad
end
/-! ### while -/
/-- so many turns at most -/
noncomputable def mWhileN (nc : SM Bool) (mb : SS) : Nat → SS
  | 0 => fun _ _ => .bad
  | n + 1 => fun s S => (nc s S).bind fun k S1 => if k = true then (mb s S1).bind fun p S2 => match p with
      | (.nx, s2) => mWhileN nc mb n s2 S2
      | (.ct, s2) => mWhileN nc mb n s2 S2
      | (.bk, s2) => .ok (.nx, s2) S2
      | (.rt w, s2) => .ok (.rt w, s2) S2
    else .ok (.nx, s) S1
section
variable {X : Cx} {E : EK} {pos : Pos}
theorem psm_while {c : Expr} {body : List Stmt} {nc : SM Bool} {mb : SS} (n : Nat) (hp : PassesOwn (model X.prog X.w) X.A X.env X.xe) (hc : PTM X E c nc) (hb : PSsM X E body mb) : PSM X E (.While c body [] pos) (mWhileN nc mb n) :=
  ps_imp (ps_while hp hc hb) fun D σ H ⟨ρ, s, S, rep, env, o⟩ => by
    refine ⟨fun m σ' H' => ∃ ρ' s' S', RepS X.K X.mg ρ' H' S' ∧ REnv X.K X.mg ρ' H' E s' σ' ∧ OutS X.K X.mg E ρ' H' (mWhileN nc mb m s' S') D, ⟨n, ρ, s, S, rep, env, o⟩, ?_⟩
    rintro m σ1 H1 ⟨ρ1, s1, S1, rep1, env1, o1⟩
    cases m with
    | zero => exact o1.elim
    | succ m =>
      refine ⟨ρ1, s1, S1, rep1, env1, OutS.bind o1 fun ρ2 H2 k k' S2 e2 rep2 r2 o2 => ?_⟩
      cases r2
      cases k with
      | false => rw [if_neg Bool.false_ne_true] at o2; rw [if_neg Bool.false_ne_true]; exact OutS.nx o2 rep2 (env1.ext e2)
      | true =>
        rw [if_pos rfl] at o2; rw [if_pos rfl]
        refine ⟨fun σ' H' => ∃ ρ' s' S', RepS X.K X.mg ρ' H' S' ∧ REnv X.K X.mg ρ' H' E s' σ' ∧ OutS X.K X.mg E ρ' H' (mWhileN nc mb m s' S') D, fun σ' H' h => ⟨m, Nat.lt_succ_self m, h⟩, ρ2, s1, S2, rep2, env1.ext e2, ?_⟩
        cases e : mb s1 S2 with
        | ok p S3 =>
          obtain ⟨f, s3⟩ := p
          rw [e] at o2
          cases f with
          | nx => exact fun ρ3 H3 σ3 x rep3 env3 => ⟨ρ3, s3, S3, rep3, env3, OutS.ext x o2⟩
          | ct => exact fun ρ3 H3 σ3 x rep3 env3 => ⟨ρ3, s3, S3, rep3, env3, OutS.ext x o2⟩
          | bk => exact o2
          | rt w => exact o2
        | exc c ns ws S3 => rw [e] at o2; exact o2
        | bad => rw [e] at o2; exact o2
end
/-! ### what a for walks -/
/-- J walks the items ws, whatever happens beside -/
noncomputable def RIt (K : PySem.W.Frag) (mg : Str → Option Value) : Rl It (List W) := fun ρ H ws J => ∀ ρ' H' S', Ext ρ H ρ' H' → RepS K mg ρ' H' S' → ∀ i : Nat,
  (∀ w, ws[i]? = some w → J.go i H' ∧ ∀ x H2, J.yld i H' x H2 → Ext ρ' H' ρ' H2 ∧ RepS K mg ρ' H2 S' ∧ RW K mg ρ' H2 w x) ∧ (ws.length = i → J.stop i H')
theorem pi_imp {X : Cx} {tg e : Expr} {t t' : TI} (h : PI X tg e t) (f : ∀ σ H R, t' σ H R → t σ H R) : PI X tg e t' := ⟨fun pins s σ H R I q => h.run pins s σ H R I (f σ H R q)⟩
/-- the items of a list (no object of the store) -/
noncomputable def itL : W → Option (List W)
  | .lst ws => some ws
  | .flst ws => some ws
  | _ => none
section
variable {K : PySem.W.Frag} {mg : Str → Option Value} {ρ ρ' : RT} {H H' : Hp} {S : Store}
theorem itL_of {w : W} {x : V} {ws : List W} (r : RW K mg ρ H w x) (h : itL w = some ws) : ∃ a vs, x = .ref a ∧ RWs K mg ρ H ws vs ∧ ∀ ρ' H', Ext ρ H ρ' H' → SqL K H' a vs := by
  cases w with
  | lst us => cases h; cases r with | lst hf hr => exact ⟨_, _, rfl, hr, fun ρ' H' e => .inl (.inl (hf.ext e).1)⟩
  | flst us => cases h; cases r with | flst hf hr => exact ⟨_, _, rfl, hr, fun ρ' H' e => sqF_of (hf.imp (fun ⟨o, z⟩ => ⟨o, z.ext e⟩) id)⟩
  | _ => cases h
theorem tup_still {a : Addr} {vs : List V} (h : Fx ρ H a (.tup vs) ∨ KTup K a vs) (e : Ext ρ H ρ' H') : SqT K H' a vs := sqT_of (h.imp (fun z => z.ext e) id)
theorem rit_list {a : Addr} {ws : List W} {vs : List V} (r : RWs K mg ρ H ws vs) (hl : ∀ ρ' H', Ext ρ H ρ' H' → SqL K H' a vs) : RIt K mg ρ H ws (Itl K a) := fun ρ' H' S' e rep i => by
  refine ⟨fun w hw => ?_, fun hi => ⟨vs, hl _ _ e, by rw [← r.length, hi]; exact Nat.le_refl _⟩⟩
  obtain ⟨v, h1, h2⟩ := r.get hw
  refine ⟨⟨vs, v, hl _ _ e, h1⟩, fun x H2 hy => ?_⟩
  obtain ⟨rfl, hy⟩ := hy
  have : v = x := Option.some.inj (h1.symm.trans (hy vs (hl _ _ e)))
  subst this
  exact ⟨Ext.refl _ _, rep, h2.ext e⟩
theorem rit_tup {a : Addr} {ws : List W} {vs : List V} (r : RWs K mg ρ H ws vs) (hl : ∀ ρ' H', Ext ρ H ρ' H' → SqT K H' a vs) : RIt K mg ρ H ws (Itt K a) := fun ρ' H' S' e rep i => by
  refine ⟨fun w hw => ?_, fun hi => ⟨vs, hl _ _ e, by rw [← r.length, hi]; exact Nat.le_refl _⟩⟩
  obtain ⟨v, h1, h2⟩ := r.get hw
  refine ⟨⟨vs, v, hl _ _ e, h1⟩, fun x H2 hy => ?_⟩
  obtain ⟨rfl, hy⟩ := hy
  have : v = x := Option.some.inj (h1.symm.trans (hy vs (hl _ _ e)))
  subst this
  exact ⟨Ext.refl _ _, rep, h2.ext e⟩
noncomputable def rngW (lo : Int) (n : Nat) : List W := (List.range n).map fun (i : Nat) => .int (lo + i)
theorem rngW_len (lo : Int) (n : Nat) : (rngW lo n).length = n := by simp [rngW]
theorem rngW_get {lo : Int} {n i : Nat} {w : W} (h : (rngW lo n)[i]? = some w) : i < n ∧ w = .int (lo + i) := by
  unfold rngW at h
  rw [List.getElem?_map] at h
  cases e : (List.range n)[i]? with
  | none => rw [e] at h; cases h
  | some j =>
    rw [e] at h
    obtain ⟨h1, h2⟩ := List.getElem?_eq_some_iff.mp e
    rw [List.getElem_range] at h2
    subst h2
    exact ⟨by simpa using h1, (Option.some.inj h).symm⟩
theorem rit_range {lo : Int} {n : Nat} : RIt K mg ρ H (rngW lo n) (Itr lo n) := fun ρ' H' S' e rep i => by
  refine ⟨fun w hw => ?_, fun hi => by rw [rngW_len] at hi; exact Nat.le_of_eq hi⟩
  obtain ⟨h1, rfl⟩ := rngW_get hw
  refine ⟨h1, fun x H2 hy => ?_⟩
  obtain ⟨rfl, rfl⟩ := hy
  exact ⟨Ext.refl _ _, rep, .int _⟩
noncomputable def signs (x : Str) : List W := x.cps.toList.map fun c => .str ⟨#[c]⟩
theorem rit_str {x : Str} : RIt K mg ρ H (signs x) (Its x) := fun ρ' H' S' e rep i => by
  refine ⟨fun w hw => ?_, fun hi => by unfold signs at hi; rw [List.length_map, Array.length_toList] at hi; exact Nat.le_of_eq hi⟩
  unfold signs at hw
  rw [List.getElem?_map] at hw
  cases e2 : x.cps.toList[i]? with
  | none => rw [e2] at hw; cases hw
  | some c =>
    rw [e2] at hw
    cases (Option.some.inj hw)
    refine ⟨(by simpa using (List.getElem?_eq_some_iff.mp e2).1 : i < x.cps.size), fun y H2 hy => ?_⟩
    obtain ⟨rfl, c', h1, rfl⟩ := hy
    have : c = c' := by
      rw [Array.getElem?_toList] at e2
      exact Option.some.inj (e2.symm.trans h1)
    subst this
    exact ⟨Ext.refl _ _, rep, .str _⟩
theorem rw_pair {T : Addr} {w1 w2 : W} {x y : V} (rep : RepS K mg ρ H S) (hT : H T = none) (r1 : RW K mg ρ H w1 x) (r2 : RW K mg ρ H w2 y) : Ext ρ H ρ (upd H T (.tup [x, y])) ∧ RepS K mg ρ (upd H T (.tup [x, y])) S ∧ RW K mg ρ (upd H T (.tup [x, y])) (.tup [w1, w2]) (.ref T) := by
  obtain ⟨e, rep'⟩ := rep.tree hT (.tup [x, y])
  exact ⟨e, rep', .tup (.inl (fx_new rep hT _)) (.cons (r1.ext e) (.cons (r2.ext e) .nil))⟩
noncomputable def zipW (ws us : List W) : List W := (ws.zip us).map fun p => .tup [p.1, p.2]
theorem zipW_get {ws us : List W} {i : Nat} {w : W} (h : (zipW ws us)[i]? = some w) : ∃ a b, ws[i]? = some a ∧ us[i]? = some b ∧ w = .tup [a, b] := by
  unfold zipW at h
  rw [List.getElem?_map] at h
  cases e : (ws.zip us)[i]? with
  | none => rw [e] at h; cases h
  | some p =>
    rw [e] at h
    obtain ⟨h1, h2⟩ := List.getElem?_zip_eq_some.mp e
    exact ⟨p.1, p.2, h1, h2, (Option.some.inj h).symm⟩
theorem rit_zipL {a b : Addr} {ws us : List W} {vs xs : List V} (r : RWs K mg ρ H ws vs) (r' : RWs K mg ρ H us xs) (hl : ∀ ρ' H', Ext ρ H ρ' H' → SqL K H' a vs) (hl' : ∀ ρ' H', Ext ρ H ρ' H' → SqL K H' b xs) : RIt K mg ρ H (zipW ws us) (Itz K a b) := fun ρ' H' S' e rep i => by
  refine ⟨fun w hw => ?_, fun hi => ⟨vs, xs, hl _ _ e, hl' _ _ e, ?_⟩⟩
  · obtain ⟨w1, w2, h1, h2, rfl⟩ := zipW_get hw
    obtain ⟨v1, g1, q1⟩ := r.get h1
    obtain ⟨v2, g2, q2⟩ := r'.get h2
    refine ⟨⟨vs, xs, v1, v2, hl _ _ e, hl' _ _ e, g1, g2⟩, fun x H2 hy => ?_⟩
    obtain ⟨T, x1, x2, rfl, hT, rfl, f1, f2⟩ := hy
    have e1 : v1 = x1 := Option.some.inj (g1.symm.trans (f1 vs (hl _ _ e)))
    have e2 : v2 = x2 := Option.some.inj (g2.symm.trans (f2 xs (hl' _ _ e)))
    subst e1 e2
    exact rw_pair rep hT (q1.ext e) (q2.ext e)
  · unfold zipW at hi
    rw [List.length_map, List.length_zip] at hi
    rw [← r.length, ← r'.length]
    omega
theorem rit_zipT {a b : Addr} {ws us : List W} {vs xs : List V} (r : RWs K mg ρ H ws vs) (r' : RWs K mg ρ H us xs) (hl : ∀ ρ' H', Ext ρ H ρ' H' → SqT K H' a vs) (hl' : ∀ ρ' H', Ext ρ H ρ' H' → SqT K H' b xs) : RIt K mg ρ H (zipW ws us) (RZ.ItzT K a b) := fun ρ' H' S' e rep i => by
  refine ⟨fun w hw => ?_, fun hi => ⟨vs, xs, hl _ _ e, hl' _ _ e, ?_⟩⟩
  · obtain ⟨w1, w2, h1, h2, rfl⟩ := zipW_get hw
    obtain ⟨v1, g1, q1⟩ := r.get h1
    obtain ⟨v2, g2, q2⟩ := r'.get h2
    refine ⟨⟨vs, xs, v1, v2, hl _ _ e, hl' _ _ e, g1, g2⟩, fun x H2 hy => ?_⟩
    obtain ⟨T, x1, x2, rfl, hT, rfl, f1, f2⟩ := hy
    have e1 : v1 = x1 := Option.some.inj (g1.symm.trans (f1 vs (hl _ _ e)))
    have e2 : v2 = x2 := Option.some.inj (g2.symm.trans (f2 xs (hl' _ _ e)))
    subst e1 e2
    exact rw_pair rep hT (q1.ext e) (q2.ext e)
  · unfold zipW at hi
    rw [List.length_map, List.length_zip] at hi
    rw [← r.length, ← r'.length]
    omega
end
end RL
end
section
set_option maxRecDepth 100000
set_option maxHeartbeats 2000000
namespace RL
open PySem PySem.Spec L2
open PyProof.Rows hiding St
variable [Lams]
/-! ### iterators: fixed items, or a list of the store as it stands at each turn -/
inductive ItW where
  | fix (ws : List W)
  | gen (nx : Nat → Store → Option (Option W))
noncomputable def RI (K : PySem.W.Frag) (mg : Str → Option Value) : Rl It ItW := fun ρ H it J => match it with
  | .fix ws => RIt K mg ρ H ws J
  | .gen nx => ∀ ρ' H' S', Ext ρ H ρ' H' → RepS K mg ρ' H' S' → ∀ i : Nat, match nx i S' with
    | none => True
    | some none => J.stop i H'
    | some (some w) => J.go i H' ∧ ∀ x H2, J.yld i H' x H2 → Ext ρ' H' ρ' H2 ∧ RepS K mg ρ' H2 S' ∧ RW K mg ρ' H2 w x
noncomputable def PIM' (X : Cx) (E : EK) (tg iter : Expr) (mi : SM ItW) : Prop := PI X tg iter (tX X.K X.mg (RI X.K X.mg) E mi)
/-- the list at place l of the store -/
noncomputable def lstAt (S : Store) (l : Nat) : Option (List W) := match S[l]? with
  | some (.lst ws) => some ws
  | _ => none
theorem lstAt_of {K : PySem.W.Frag} {mg : Str → Option Value} {ρ : RT} {H : Hp} {S : Store} {l : Nat} {a : Addr} {ws : List W} (rep : RepS K mg ρ H S) (hl : ρ.r[l]? = some a) (h : lstAt S l = some ws) : ∃ vs, H a = some (.lst vs) ∧ RWs K mg ρ H ws vs := by
  unfold lstAt at h
  cases e : S[l]? with
  | none => rw [e] at h; cases h
  | some ob =>
    cases ob with
    | lst us =>
      rw [e] at h
      cases (Option.some.inj h : us = ws)
      obtain ⟨a', h1, h2⟩ := rep.ob l _ e
      rw [hl] at h1; cases h1
      cases h2 with | lst h3 h4 => exact ⟨_, h3, h4⟩
    | _ => rw [e] at h; cases h
/-- a list of the store, as it stands at each turn -/
noncomputable def nxL (l : Nat) : Nat → Store → Option (Option W) := fun i S => (lstAt S l).map fun ws => ws[i]?
theorem ri_dyn {K : PySem.W.Frag} {mg : Str → Option Value} {ρ : RT} {H : Hp} {l : Nat} {a : Addr} (hl : ρ.r[l]? = some a) : RI K mg ρ H (.gen (nxL l)) (Itl K a) := by
  intro ρ' H' S' e rep i
  unfold nxL
  cases e1 : lstAt S' l with
  | none => trivial
  | some us =>
    obtain ⟨vs', h1, h2⟩ := lstAt_of rep (e.pre _ _ hl) e1
    dsimp only [Option.map_some]
    cases e2 : us[i]? with
    | none =>
      have hle : vs'.length ≤ i := by rw [← h2.length]; exact List.getElem?_eq_none_iff.mp e2
      exact ⟨vs', .inl (.inl h1), hle⟩
    | some w =>
      obtain ⟨v, g1, g2⟩ := h2.get e2
      refine ⟨⟨vs', v, .inl (.inl h1), g1⟩, fun x H2 hy => ?_⟩
      obtain ⟨rfl, hy⟩ := hy
      have ev : v = x := Option.some.inj (g1.symm.trans (hy vs' (.inl (.inl h1))))
      subst ev
      exact ⟨Ext.refl _ _, rep, g2⟩
noncomputable def mItems (m : SM W) : SM ItW := fun s S => (m s S).bind fun w S1 => match w with
  | .lst ws => .ok (.fix ws) S1
  | .flst ws => .ok (.fix ws) S1
  | .tup ws => .ok (.fix ws) S1
  | .str x => .ok (.fix (signs x)) S1
  | .ref l => match lstAt S1 l with
    | some _ => .ok (.gen (nxL l)) S1
    | none => .bad
  | _ => .bad
noncomputable def iAny (K : PySem.W.Frag) (te : TE) : TI := fun σ H R => te σ H fun x H1 => (∃ a, x = .ref a ∧ (∃ xs, SqL K H1 a xs) ∧ R (Itl K a) H1) ∨ (∃ a, x = .ref a ∧ (∃ xs, SqT K H1 a xs) ∧ R (Itt K a) H1) ∨ ∃ z, x = .str z ∧ R (Its z) H1
section
variable {X : Cx} {E : EK} {pos : Pos} {tg a b : Expr} {ma : SM W} {es : List Expr}
theorem pi_any {te : TE} (ha : PE X a te) : PI X tg a (iAny X.K te) := by
  refine ⟨fun pins s σ H R I h => ?_⟩
  refine thn (ha.run pins s σ H _ I h) fun v s1 ⟨x, H1, I1, r1, q1⟩ => ?_
  rcases q1 with ⟨p, e, ⟨xs, hq⟩, q⟩ | ⟨p, e, ⟨xs, hq⟩, q⟩ | ⟨z, e, q⟩
  · subst e
    cases r1
    obtain ⟨its, rv, pp, hz⟩ := I1.list hq
    refine wpAny_pyIter_list pp.isList ?_
    refine ⟨s1.heap.objs.size, [s1.heap.objs.size], _, _, H1, rfl, I1.kept (t' := s1.toks) fun b o e => Heap.get?_push_of_some _ e, turn_list p _, ⟨_, Heap.get?_push_size _ rfl, rfl, rfl⟩, fun b hb => ?_, q⟩
    have e : b = s1.heap.objs.size := by simpa using hb
    subst e
    exact I1.fpOk (Nat.le_refl _) (I1.hok.fresh (Nat.le_refl _))
  · subst e
    cases r1
    obtain ⟨its, rv, pp, hz⟩ := I1.tuple hq
    refine wpAny_pyIter_tuple (show s1.heap.IsTuple p its.toArray from pp) ?_
    refine ⟨s1.heap.objs.size, [s1.heap.objs.size], _, _, H1, rfl, I1.kept (t' := s1.toks) fun b o e => Heap.get?_push_of_some _ e, turn_tuple p _, ⟨_, Heap.get?_push_size _ rfl, rfl, rfl⟩, fun b hb => ?_, q⟩
    have e : b = s1.heap.objs.size := by simpa using hb
    subst e
    exact I1.fpOk (Nat.le_refl _) (I1.hok.fresh (Nat.le_refl _))
  · subst e
    obtain ⟨t, rfl⟩ := r1
    cases ha : z.cps.all (· < 128)
    · exact wpAny_pyIter_wide ha (pi_one (tk := s1.toks) I1 _ (turn_str _ z t "str_iterator" (.inr rfl)) ⟨_, Heap.get?_push_size _ rfl, rfl, rfl⟩ q)
    · exact wpAny_pyIter_ascii ha (pi_one (tk := s1.toks) I1 _ (turn_str _ z t "str_ascii_iterator" (.inl rfl)) ⟨_, Heap.get?_push_size _ rfl, rfl, rfl⟩ q)
theorem pim_any (ha : PM X E a ma) : PIM' X E tg a (mItems ma) := pi_imp (pi_any ha) fun σ H R h => tX.bind h fun ρ1 H1 w x s S1 rep env r o => by
  cases w with
  | lst ws =>
    obtain ⟨p, vs, rfl, hr, hs⟩ := itL_of r (ws := ws) rfl
    exact .inl ⟨p, rfl, ⟨vs, hs _ _ (Ext.refl _ _)⟩, Out.here o rep (rit_list hr hs)⟩
  | flst ws =>
    obtain ⟨p, vs, rfl, hr, hs⟩ := itL_of r (ws := ws) rfl
    exact .inl ⟨p, rfl, ⟨vs, hs _ _ (Ext.refl _ _)⟩, Out.here o rep (rit_list hr hs)⟩
  | tup ws =>
    cases r with
    | tup hf hr => exact .inr (.inl ⟨_, rfl, ⟨_, sqT_of hf⟩, Out.here o rep (rit_tup hr fun ρ' H' e => tup_still hf e)⟩)
  | str z => cases r; exact .inr (.inr ⟨z, rfl, Out.here o rep rit_str⟩)
  | ref l =>
    cases r with
    | @ref l p hl =>
      have o : Out X.K X.mg (RI X.K X.mg) E ρ1 H1 (match lstAt S1 l with
        | some _ => Res.ok (ItW.gen (nxL l)) S1
        | none => Res.bad) R := o
      cases e : lstAt S1 l with
      | none => rw [e] at o; exact o.elim
      | some ws =>
        rw [e] at o
        obtain ⟨vs, h1, h2⟩ := lstAt_of rep hl e
        exact .inl ⟨p, rfl, ⟨vs, .inl (.inl h1)⟩, Out.here o rep (ri_dyn hl)⟩
  | _ => exact o.elim
noncomputable def okR (j : Int) : Bool := decide (-(2 ^ 62) ≤ j) && decide (j < 2 ^ 62)
noncomputable def mRange1 (mr : SM (List W)) : SM ItW := fun s S => (mr s S).bind fun ws S1 => match ws with
  | [.int j] => if okR j = true then .ok (.fix (rngW 0 j.toNat)) S1 else .bad
  | _ => .bad
theorem pim_range1 {mr : SM (List W)} {p : Pos} (hm : X.mg "range" = none) (ha : PAM X E [a] mr) (hg : Gl X "range" := by rfl) (hs : starEach [a] X.env = [(false, eval a X.env)] := by rfl) : PIM' X E tg (.Call (.Name "range" p) [a] [] pos) (mRange1 mr) :=
  pi_imp (pi_range1 hg hm ha hs) fun σ H R h => tX.bind h fun ρ1 H1 ws xs s S1 rep env r o => by
    match ws, r, o with
    | [], _, o => exact o.elim
    | [w], r, o =>
      obtain ⟨x, rfl, r1⟩ := r.one
      cases w with
      | int j =>
        cases r1
        have o : Out X.K X.mg (RI X.K X.mg) E ρ1 H1 (if okR j = true then Res.ok (ItW.fix (rngW 0 j.toNat)) S1 else Res.bad) R := o
        split at o
        · rename_i hz
          simp only [okR, Bool.and_eq_true, decide_eq_true_eq] at hz
          exact ⟨j, rfl, hz.1, hz.2, Out.here o rep rit_range⟩
        · exact o.elim
      | _ => exact o.elim
    | w :: _ :: _, _, o => cases w <;> exact o.elim
noncomputable def mRange2 (mr : SM (List W)) : SM ItW := fun s S => (mr s S).bind fun ws S1 => match ws with
  | [.int i, .int j] => if okR i = true ∧ okR j = true then .ok (.fix (rngW i (j - i).toNat)) S1 else .bad
  | _ => .bad
/-- zip of two lists, one of them of the store -/
noncomputable def nxZ (w w' : W) : Nat → Store → Option (Option W) := fun i S => match seqL S w, seqL S w' with
  | some a, some b => some ((zipW a b)[i]?)
  | _, _ => none
noncomputable def zipG (w w' : W) (S : Store) : Res ItW := match seqL S w, seqL S w' with
  | some _, some _ => .ok (.gen (nxZ w w')) S
  | _, _ => .bad
theorem ri_zip {K : PySem.W.Frag} {mg : Str → Option Value} {ρ : RT} {H : Hp} {w w' : W} {a b : Addr} (r : RW K mg ρ H w (.ref a)) (r' : RW K mg ρ H w' (.ref b)) : RI K mg ρ H (.gen (nxZ w w')) (Itz K a b) := by
  intro ρ' H' S' e rep i
  unfold nxZ
  cases e1 : seqL S' w with
  | none => trivial
  | some us =>
    cases e2 : seqL S' w' with
    | none => trivial
    | some us' =>
      obtain ⟨p, vs, ep, h1, g1⟩ := seqL_of rep (r.ext e) e1
      obtain ⟨p', vs', ep', h2, g2⟩ := seqL_of rep (r'.ext e) e2
      cases ep; cases ep'
      dsimp only
      cases e3 : (zipW us us')[i]? with
      | none =>
        have hz := List.getElem?_eq_none_iff.mp e3
        unfold zipW at hz
        rw [List.length_map, List.length_zip] at hz
        refine ⟨vs, vs', h1, h2, ?_⟩
        rw [← g1.length, ← g2.length]
        omega
      | some u =>
        obtain ⟨w1, w2, k1, k2, rfl⟩ := zipW_get e3
        obtain ⟨v1, j1, q1⟩ := g1.get k1
        obtain ⟨v2, j2, q2⟩ := g2.get k2
        refine ⟨⟨vs, vs', v1, v2, h1, h2, j1, j2⟩, fun x H2 hy => ?_⟩
        obtain ⟨T, x1, x2, rfl, hT, rfl, f1, f2⟩ := hy
        have e1 : v1 = x1 := Option.some.inj (j1.symm.trans (f1 vs h1))
        have e2 : v2 = x2 := Option.some.inj (j2.symm.trans (f2 vs' h2))
        subst e1 e2
        exact rw_pair rep hT q1 q2
/-- zip of two lists, of two tuples -/
noncomputable def mZip (mr : SM (List W)) : SM ItW := fun s S => (mr s S).bind fun ws S1 => match ws with
  | [w, w'] => match itL w, itL w' with
    | some a, some b => .ok (.fix (zipW a b)) S1
    | _, _ => match tupL w, tupL w' with
      | some a, some b => .ok (.fix (zipW a b)) S1
      | _, _ => zipG w w' S1
  | _ => .bad
theorem pim_zip {mr : SM (List W)} {p tpos : Pos} {elts : List Expr} {kk : Nat} (hm : X.mg "zip" = none) (ha : PAM X E [a, b] mr) (hg : Gl X "zip" := by rfl) (hs : starEach [a, b] X.env = (false, eval a X.env) :: starEach [b] X.env := by rfl) (hpl : (backTo pos (starEach [b] X.env)).any (·.1) = false := by rfl) :
    PIM' X E (.Tuple elts kk tpos) (.Call (.Name "zip" p) [a, b] [] pos) (mZip mr) :=
  pi_imp (RZ.pi_zipA hg hm ha hs hpl) fun σ H R h => tX.bind h fun ρ1 H1 ws xs s S1 rep env r o => by
    match ws, r, o with
    | [], _, o => exact o.elim
    | [_], _, o => exact o.elim
    | _ :: _ :: _ :: _, _, o => exact o.elim
    | [w, w'], r, o =>
      obtain ⟨x, y, rfl, r1, r2⟩ := r.two
      have o : Out X.K X.mg (RI X.K X.mg) E ρ1 H1 (match itL w, itL w' with
        | some a, some b => Res.ok (ItW.fix (zipW a b)) S1
        | _, _ => match tupL w, tupL w' with
          | some a, some b => Res.ok (ItW.fix (zipW a b)) S1
          | _, _ => zipG w w' S1) R := o
      have two : (itL w = none ∨ itL w' = none) → Out X.K X.mg (RI X.K X.mg) E ρ1 H1 (match tupL w, tupL w' with
          | some a, some b => Res.ok (ItW.fix (zipW a b)) S1
          | _, _ => zipG w w' S1) R := fun hn => by
        cases e1 : itL w with
        | none => rw [e1] at o; exact o
        | some _ =>
          cases e2 : itL w' with
          | none => rw [e1, e2] at o; exact o
          | some _ =>
            rcases hn with z | z
            · rw [e1] at z; cases z
            · rw [e2] at z; cases z
      have tups : (itL w = none ∨ itL w' = none) → ∃ a b xs ys, [x, y] = [V.ref a, V.ref b] ∧ ((SqL X.K H1 a xs ∧ SqL X.K H1 b ys ∧ R (Itz X.K a b) H1) ∨ (SqT X.K H1 a xs ∧ SqT X.K H1 b ys ∧ R (RZ.ItzT X.K a b) H1)) := fun hn => by
        have o := two hn
        have gen : Out X.K X.mg (RI X.K X.mg) E ρ1 H1 (zipG w w' S1) R → ∃ a b xs ys, [x, y] = [V.ref a, V.ref b] ∧ ((SqL X.K H1 a xs ∧ SqL X.K H1 b ys ∧ R (Itz X.K a b) H1) ∨ (SqT X.K H1 a xs ∧ SqT X.K H1 b ys ∧ R (RZ.ItzT X.K a b) H1)) := fun o => by
          unfold zipG at o
          cases e1 : seqL S1 w with
          | none => rw [e1] at o; exact o.elim
          | some us =>
            cases e2 : seqL S1 w' with
            | none => rw [e1, e2] at o; exact o.elim
            | some us' =>
              rw [e1, e2] at o
              obtain ⟨p, vs, rfl, h1, g1⟩ := seqL_of rep r1 e1
              obtain ⟨p', vs', rfl, h2, g2⟩ := seqL_of rep r2 e2
              exact ⟨_, _, _, _, rfl, .inl ⟨h1, h2, Out.here o rep (ri_zip r1 r2)⟩⟩
        cases w with
        | tup us =>
          cases w' with
          | tup us' =>
            cases r1 with
            | tup hf hr =>
              cases r2 with
              | tup hf' hr' => exact ⟨_, _, _, _, rfl, .inr ⟨sqT_of hf, sqT_of hf', Out.here o rep (rit_zipT hr hr' (fun ρ' H' e => tup_still hf e) fun ρ' H' e => tup_still hf' e)⟩⟩
          | _ => exact gen o
        | _ => exact gen o
      cases e1 : itL w with
      | none => exact tups (.inl e1)
      | some us =>
        cases e2 : itL w' with
        | none => exact tups (.inr e2)
        | some us' =>
          rw [e1, e2] at o
          obtain ⟨p, vs, rfl, hr, hs⟩ := itL_of r1 e1
          obtain ⟨p', vs', rfl, hr', hs'⟩ := itL_of r2 e2
          exact ⟨_, _, _, _, rfl, .inl ⟨hs _ _ (Ext.refl _ _), hs' _ _ (Ext.refl _ _), Out.here o rep (rit_zipL hr hr' hs hs')⟩⟩
end
/-! ### for -/
noncomputable def mForL (g : GM) (mb : SS) : List W → SS
  | [] => fun s S => .ok (.nx, s) S
  | w :: r => fun s S => (g w s S).bind fun s1 S1 => (mb s1 S1).bind fun p S2 => match p with
    | (.nx, s2) => mForL g mb r s2 S2
    | (.ct, s2) => mForL g mb r s2 S2
    | (.bk, s2) => .ok (.nx, s2) S2
    | (.rt w, s2) => .ok (.rt w, s2) S2
/-- over the list at l; so many turns at most -/
noncomputable def mForN (g : GM) (mb : SS) (l : Nat → Store → Option (Option W)) : Nat → Nat → SS
  | 0, _ => fun _ _ => .bad
  | n + 1, i => fun s S => match l i S with
    | none => .bad
    | some o => match o with
      | none => .ok (.nx, s) S
      | some w => (g w s S).bind fun s1 S1 => (mb s1 S1).bind fun p S2 => match p with
        | (.nx, s2) => mForN g mb l n (i + 1) s2 S2
        | (.ct, s2) => mForN g mb l n (i + 1) s2 S2
        | (.bk, s2) => .ok (.nx, s2) S2
        | (.rt w, s2) => .ok (.rt w, s2) S2
noncomputable def turns : Nat := 100000
noncomputable def mForI (it : ItW) (g : GM) (mb : SS) : SS := match it with
  | .fix ws => mForL g mb ws
  | .gen l => mForN g mb l turns 0
noncomputable def mFor (mi : SM ItW) (g : GM) (mb : SS) : SS := fun s S => (mi s S).bind fun it S1 => mForI it g mb s S1
section
variable {X : Cx} {E : EK} {pos : Pos} {tg iter : Expr} {body : List Stmt} {mi : SM ItW} {g : GM} {mb : SS} {vs : List Nat}
/-- one turn, then the rest -/
theorem turn_of {ρ : RT} {H : Hp} {s : Env'} {S : Store} {D : Ends} {x : V} {σ : L2.St} {w : W} (rep : RepS X.K X.mg ρ H S) (env : REnv X.K X.mg ρ H E s σ) (r : RW X.K X.mg ρ H w x) {rest : SS} {N : L2.St → Hp → Prop}
    (o : OutS X.K X.mg E ρ H ((g w s S).bind fun s1 S1 => (mb s1 S1).bind fun p S2 => match p with
      | (.nx, s2) => rest s2 S2
      | (.ct, s2) => rest s2 S2
      | (.bk, s2) => .ok (.nx, s2) S2
      | (.rt w, s2) => .ok (.rt w, s2) S2) D)
    (hN : ∀ ρ' H' σ' s' S', Ext ρ H ρ' H' → RepS X.K X.mg ρ' H' S' → REnv X.K X.mg ρ' H' E s' σ' → OutS X.K X.mg E ρ' H' (rest s' S') D → N σ' H') :
    tG X E vs g x σ H fun σ2 H2 => tS X E mb { D with nx := N, ct := N, bk := D.nx } σ2 H2 := by
  refine ⟨ρ, s, S, w, rep, env, r, OutS.bind o fun ρ1 H1 s1 σ1 S1 e1 rep1 hh o1 => ⟨ρ1, s1, S1, rep1, hh.1, ?_⟩⟩
  cases e : mb s1 S1 with
  | ok p S2 =>
    obtain ⟨f, s2⟩ := p
    rw [e] at o1
    cases f with
    | nx => exact fun ρ2 H2 σ2 x rep2 env2 => hN ρ2 H2 σ2 s2 S2 (e1.trans x) rep2 env2 (OutS.ext x o1)
    | ct => exact fun ρ2 H2 σ2 x rep2 env2 => hN ρ2 H2 σ2 s2 S2 (e1.trans x) rep2 env2 (OutS.ext x o1)
    | bk => exact o1
    | rt w => exact o1
  | exc c ns ws S2 => rw [e] at o1; exact o1
  | bad => rw [e] at o1; exact o1
theorem psm_for (hp : PassesOwn (model X.prog X.w) X.A X.env X.xe) (hc : X.calm = true) (hi : PIM' X E tg iter mi) (hg : PGM X E tg vs g) (hb : PSsM X E body mb) (hs : ∀ x, foldedSetIterable iter X.env x = pure x := by intro _; rfl) : PSM X E (.For tg iter body [] pos) (mFor mi g mb) :=
  ps_imp (ps_for hp hc hi hg hb hs) fun D σ H h => tS.bind h fun ρ1 H1 it J s S1 rep env r o => by
    cases it with
    | fix ws =>
      refine ⟨fun i m σ' H' => m = ws.length - i ∧ i ≤ ws.length ∧ ∃ ρ' s' S', Ext ρ1 H1 ρ' H' ∧ RepS X.K X.mg ρ' H' S' ∧ REnv X.K X.mg ρ' H' E s' σ' ∧ OutS X.K X.mg E ρ' H' (mForL g mb (ws.drop i) s' S') D, ⟨ws.length, by simp, Nat.zero_le _, ρ1, s, S1, Ext.refl _ _, rep, env, o⟩, ?_⟩
      rintro i m σ' H' ⟨rfl, hle, ρ', s', S', e, rep', env', o'⟩
      have rr := r ρ' H' S' e rep' i
      by_cases hlt : i < ws.length
      · have hw : ws[i]? = some ws[i] := List.getElem?_eq_getElem hlt
        obtain ⟨go, yl⟩ := rr.1 _ hw
        rw [List.drop_eq_getElem_cons hlt] at o'
        refine .inr ⟨go, fun σ2 H2 => ∃ ρ2 s2 S2, Ext ρ1 H1 ρ2 H2 ∧ RepS X.K X.mg ρ2 H2 S2 ∧ REnv X.K X.mg ρ2 H2 E s2 σ2 ∧ OutS X.K X.mg E ρ2 H2 (mForL g mb (ws.drop (i + 1)) s2 S2) D, fun σ2 H2 h2 => ⟨ws.length - (i + 1), by omega, rfl, hlt, h2⟩, fun x H2 hy => ?_⟩
        obtain ⟨e2, rep2, r2⟩ := yl x H2 hy
        exact turn_of rep2 (env'.ext e2) r2 (OutS.ext e2 o') fun ρ3 H3 σ3 s3 S3 e3 rep3 env3 o3 => ⟨ρ3, s3, S3, (e.trans e2).trans e3, rep3, env3, o3⟩
      · have hi : ws.length = i := by omega
        rw [List.drop_eq_nil_of_le (Nat.le_of_eq hi)] at o'
        exact .inl ⟨rr.2 hi, OutS.nx o' rep' env'⟩
    | gen l =>
      refine ⟨fun i m σ' H' => ∃ ρ' s' S', Ext ρ1 H1 ρ' H' ∧ RepS X.K X.mg ρ' H' S' ∧ REnv X.K X.mg ρ' H' E s' σ' ∧ OutS X.K X.mg E ρ' H' (mForN g mb l m i s' S') D, ⟨turns, ρ1, s, S1, Ext.refl _ _, rep, env, o⟩, ?_⟩
      rintro i m σ' H' ⟨ρ', s', S', e, rep', env', o'⟩
      cases m with
      | zero => exact o'.elim
      | succ m =>
        unfold mForN at o'
        have rr := r ρ' H' S' e rep' i
        cases e1 : l i S' with
        | none => rw [e1] at o'; exact o'.elim
        | some u =>
          rw [e1] at o' rr
          cases u with
          | none => exact .inl ⟨rr, OutS.nx o' rep' env'⟩
          | some w =>
            obtain ⟨go, yl⟩ := rr
            refine .inr ⟨go, fun σ2 H2 => ∃ ρ2 s2 S2, Ext ρ1 H1 ρ2 H2 ∧ RepS X.K X.mg ρ2 H2 S2 ∧ REnv X.K X.mg ρ2 H2 E s2 σ2 ∧ OutS X.K X.mg E ρ2 H2 (mForN g mb l m (i + 1) s2 S2) D, fun σ2 H2 h2 => ⟨m, Nat.lt_succ_self m, h2⟩, fun x H2 hy => ?_⟩
            obtain ⟨e2, rep2, r2⟩ := yl x H2 hy
            exact turn_of rep2 (env'.ext e2) r2 (OutS.ext e2 o') fun ρ3 H3 σ3 s3 S3 e3 rep3 env3 o3 => ⟨ρ3, s3, S3, (e.trans e2).trans e3, rep3, env3, o3⟩
end
/-! ### comprehensions -/
/-- no exception here -/
noncomputable def nox {α : Type} (r : Res α) : Res α := match r with
  | .exc _ _ _ _ => .bad
  | r => r
noncomputable def mLcT (g : GM) (t : SM Bool) (e : SM W) (s0 : Env') (w : W) (acc : List W) (S : Store) : Res (List W) := (nox (g w s0 S)).bind fun s1 S1 => (nox (t s1 S1)).bind fun b S2 => if b = true then (nox (e s1 S2)).bind fun y S3 => if acc.length < lim then .ok (acc ++ [y]) S3 else .bad else .ok acc S2
noncomputable def mLcL (g : GM) (t : SM Bool) (e : SM W) (s0 : Env') : List W → List W → Store → Res (List W)
  | [], acc, S => .ok acc S
  | w :: r, acc, S => (mLcT g t e s0 w acc S).bind fun acc S => mLcL g t e s0 r acc S
noncomputable def mLcN (g : GM) (t : SM Bool) (e : SM W) (s0 : Env') (l : Nat → Store → Option (Option W)) : Nat → Nat → List W → Store → Res (List W)
  | 0, _, _, _ => .bad
  | n + 1, i, acc, S => match l i S with
    | none => .bad
    | some o => match o with
      | none => .ok acc S
      | some w => (mLcT g t e s0 w acc S).bind fun acc S => mLcN g t e s0 l n (i + 1) acc S
noncomputable def mLcI (it : ItW) (g : GM) (t : SM Bool) (e : SM W) (s0 : Env') (S : Store) : Res (List W) := match it with
  | .fix ws => mLcL g t e s0 ws [] S
  | .gen l => mLcN g t e s0 l turns 0 [] S
noncomputable def wipeW (s : Env') : List Nat → Env'
  | [] => s
  | v :: vs => (wipeW s vs).set v none
noncomputable def mLc (mi : SM ItW) (vs : List Nat) (g : GM) (t : SM Bool) (e : SM W) : SM W := fun s S => (mi s S).bind fun it S1 => (mLcI it g t e (wipeW s vs) S1).bind fun acc S2 => .ok (.lst acc) S2
section
variable {K : PySem.W.Frag} {mg : Str → Option Value} {ρ ρ' : RT} {H H' : Hp} {S : Store}
theorem REnv.no {E : EK} {s : Env'} {σ : L2.St} (h : REnv K mg ρ H E s σ) : REnv K mg ρ H EN s σ := ⟨fun y c q => (nomatch q), h.len, h.look⟩
theorem env_wipe {s : Env'} {σ : L2.St} (h : REnv K mg ρ H E s σ) : ∀ vs : List Nat, REnv K mg ρ H E (wipeW s vs) (wipe σ vs)
  | [] => h
  | v :: vs => by
    have ih := env_wipe h vs
    unfold wipeW wipe
    refine ⟨ih.ce, by rw [List.length_set, List.length_set]; exact ih.len, fun i w hw => ?_⟩
    by_cases e : v = i
    · subst e
      by_cases hv : v < (wipeW s vs).length
      · rw [List.getElem?_set_self hv] at hw; cases hw
      · rw [List.getElem?_eq_none (by rw [List.length_set]; omega)] at hw; cases hw
    · rw [List.getElem?_set_ne e] at hw
      obtain ⟨x, h1, h2⟩ := ih.look i w hw
      exact ⟨x, by rw [List.getElem?_set_ne e]; exact h1, h2⟩
theorem wipe_wipe {σ : L2.St} {vs : List Nat} : ∀ {us : List Nat}, (∀ u ∈ us, u ∈ vs) → wipe (wipe σ us) vs = wipe σ vs
  | [], _ => rfl
  | u :: us, h => by
    show wipe ((wipe σ us).set u none) vs = _
    rw [wipe_set (h u List.mem_cons_self), wipe_wipe fun x hx => h x (List.mem_cons_of_mem _ hx)]
/-- fewer things in flux -/
theorem Fx.less {a : Addr} {o : HO} {t : List Addr} (h : Fx ρ H a o) (ht : ∀ b, b ∈ t → b ∈ ρ.t) : Fx ⟨ρ.r, t, ρ.ce⟩ H a o := ⟨h.1, h.2.1, fun m => h.2.2 (ht a m)⟩
theorem DvOk.less {ds : List Int} {dV : Value} {t : List Addr} (h : DvOk ρ H ds dV) (ht : ∀ b, b ∈ t → b ∈ ρ.t) : DvOk ⟨ρ.r, t, ρ.ce⟩ H ds dV := h.imp id fun ⟨t, a, b, c⟩ => ⟨t, a, b, c.less ht⟩
mutual
theorem RW.less {t : List Addr} (ht : ∀ b, b ∈ t → b ∈ ρ.t) : ∀ {w : W} {v : V}, RW K mg ρ H w v → RW K mg ⟨ρ.r, t, ρ.ce⟩ H w v
  | _, _, .non => .non
  | _, _, .bl b => .bl b
  | _, _, .int b => .int b
  | _, _, .str b => .str b
  | _, _, .ty b => .ty b
  | _, _, .gl h => .gl h
  | _, _, .ref h => .ref h
  | _, _, .tup h r => .tup (h.imp (fun z => z.less ht) id) (RWs.less ht r)
  | _, _, .lst h r => .lst (h.less ht) (RWs.less ht r)
  | _, _, .flst h r => .flst (h.imp (fun ⟨o, z⟩ => ⟨o, z.less ht⟩) id) (RWs.less ht r)
  | _, _, .dic h hl r => .dic (h.less ht) hl (RWs.less ht r)
  | _, _, .ins hc h hl r => .ins hc (h.less ht) hl (RWs.less ht r)
  | _, _, .exn hc h hd hl r => .exn hc (h.less ht) (hd.less ht) hl (RWs.less ht r)
  | _, _, .lam hf hc hd he hk => .lam (hf.less ht) (hc.less ht) (hd.less ht) he hk
  | _, _, .clo hf hc hd hl he hk hi r => .clo (hf.less ht) (hc.less ht) (hd.less ht) hl (fun k y m => let ⟨c, v, o, u, h1, h2, h3, h4⟩ := he k y m; ⟨c, v, o, u, h1, h2, h3.less ht, h4⟩) hk hi (RWs.less ht r)
theorem RWs.less {t : List Addr} (ht : ∀ b, b ∈ t → b ∈ ρ.t) : ∀ {ws : List W} {vs : List V}, RWs K mg ρ H ws vs → RWs K mg ⟨ρ.r, t, ρ.ce⟩ H ws vs
  | _, _, .nil => .nil
  | _, _, .cons h r => .cons (RW.less ht h) (RWs.less ht r)
end
theorem RO.less {t : List Addr} (ht : ∀ b, b ∈ t → b ∈ ρ.t) {a : Addr} {o : Ob} (h : RO K mg ρ H a o) : RO K mg ⟨ρ.r, t, ρ.ce⟩ H a o := by
  cases h with
  | lst h r => exact .lst h (r.less ht)
  | dic h hl r => exact .dic h hl (r.less ht)
  | ins hc h hl r => exact .ins hc h hl (r.less ht)
  | tab h1 h hk hco => exact .tab h1 h hk fun pos cv q => let ⟨c, g1, g2⟩ := hco pos cv q; ⟨c, g1, g2.less ht⟩
theorem RepS.less {t : List Addr} (ht : ∀ b, b ∈ t → b ∈ ρ.t) (R : RepS K mg ρ H S) : RepS K mg ⟨ρ.r, t, ρ.ce⟩ H S :=
  ⟨R.len, R.nd, fun l o hl => let ⟨a, h1, h2⟩ := R.ob l o hl; ⟨a, h1, h2.less ht⟩, fun a m => R.tk a (ht a m), fun a m => R.tp a (ht a m)⟩
/-- what is in flux is changed -/
theorem ext_flux {D : Addr} {o : HO} (hD : D ∈ ρ.t) : (∀ {a : Addr} {u : HO}, Fx ρ H a u → Fx ρ (upd H D o) a u) := fun {a u} h => ⟨by rw [upd_ne fun z : a = D => h.2.2 (by rw [z]; exact hD)]; exact h.1, h.2⟩
theorem DvOk.flux {D : Addr} {o : HO} (hD : D ∈ ρ.t) {ds : List Int} {dV : Value} (h : DvOk ρ H ds dV) : DvOk ρ (upd H D o) ds dV := h.imp id fun ⟨t, a, b, c⟩ => ⟨t, a, b, ext_flux hD c⟩
mutual
theorem RW.flux {D : Addr} {o : HO} (hD : D ∈ ρ.t) : ∀ {w : W} {v : V}, RW K mg ρ H w v → RW K mg ρ (upd H D o) w v
  | _, _, .non => .non
  | _, _, .bl b => .bl b
  | _, _, .int b => .int b
  | _, _, .str b => .str b
  | _, _, .ty b => .ty b
  | _, _, .gl h => .gl h
  | _, _, .ref h => .ref h
  | _, _, .tup h r => .tup (h.imp (fun z => ext_flux hD z) id) (RWs.flux hD r)
  | _, _, .lst h r => .lst (ext_flux hD h) (RWs.flux hD r)
  | _, _, .flst h r => .flst (h.imp (fun ⟨o, z⟩ => ⟨o, ext_flux hD z⟩) id) (RWs.flux hD r)
  | _, _, .dic h hl r => .dic (ext_flux hD h) hl (RWs.flux hD r)
  | _, _, .ins hc h hl r => .ins hc (ext_flux hD h) hl (RWs.flux hD r)
  | _, _, .exn hc h hd hl r => .exn hc (ext_flux hD h) (ext_flux hD hd) hl (RWs.flux hD r)
  | _, _, .lam hf hc hd he hk => .lam (ext_flux hD hf) (ext_flux hD hc) (hd.flux hD) he hk
  | _, _, .clo hf hc hd hl he hk hi r => .clo (ext_flux hD hf) (ext_flux hD hc) (hd.flux hD) hl (fun k y m => let ⟨c, v, o, u, h1, h2, h3, h4⟩ := he k y m; ⟨c, v, o, u, h1, h2, ext_flux hD h3, h4⟩) hk hi (RWs.flux hD r)
theorem RWs.flux {D : Addr} {o : HO} (hD : D ∈ ρ.t) : ∀ {ws : List W} {vs : List V}, RWs K mg ρ H ws vs → RWs K mg ρ (upd H D o) ws vs
  | _, _, .nil => .nil
  | _, _, .cons h r => .cons (RW.flux hD h) (RWs.flux hD r)
end
theorem RepS.flux {D : Addr} {o : HO} (hD : D ∈ ρ.t) (R : RepS K mg ρ H S) (ho : ∀ c u, o ≠ PinO c u := by intro _ _ z; cases z) : RepS K mg ρ (upd H D o) S := by
  have ne : ∀ a, a ∈ ρ.r → a ≠ D := fun a m z => (R.tk D hD).2 (z ▸ m)
  refine ⟨R.len, R.nd, fun l ob hl => ?_, fun a m => ⟨?_, (R.tk a m).2⟩, fun a m c u z => ?_⟩
  · obtain ⟨a, h1, h2⟩ := R.ob l ob hl
    have hne := ne a (List.mem_of_getElem? h1)
    refine ⟨a, h1, ?_⟩
    cases h2 with
    | lst h r => exact .lst ((upd_ne hne).trans h) (r.flux hD)
    | dic h hl' r => exact .dic ((upd_ne hne).trans h) hl' (r.flux hD)
    | ins hc h hl' r => exact .ins hc ((upd_ne hne).trans h) hl' (r.flux hD)
    | tab h1 h hk hco => exact .tab h1 ((upd_ne hne).trans h) hk fun pos cv q => let ⟨c, g1, g2⟩ := hco pos cv q; ⟨c, g1, ext_flux hD g2⟩
  · by_cases z : a = D
    · subst z; rw [upd_same]; simp
    · rw [upd_ne z]; exact (R.tk a m).1
  · by_cases hz : a = D
    · subst hz; rw [upd_same] at z; exact ho c u (Option.some.inj z)
    · rw [upd_ne hz] at z; exact R.tp a m c u z
/-- a new thing in flux -/
theorem RepS.more {D : Addr} {o : HO} (hD : H D = none) (R : RepS K mg ρ H S) (ho : ∀ c u, o ≠ PinO c u := by intro _ _ z; cases z) : Ext ρ H ⟨ρ.r, D :: ρ.t, ρ.ce⟩ (upd H D o) ∧ RepS K mg ⟨ρ.r, D :: ρ.t, ρ.ce⟩ (upd H D o) S := by
  have np := R.fresh hD
  have e : Ext ρ H ⟨ρ.r, D :: ρ.t, ρ.ce⟩ (upd H D o) := ⟨fun _ _ h => h, fun b m => List.mem_cons_of_mem _ m, fun b m => (List.mem_cons.mp m).elim (fun z => .inr (z ▸ hD)) .inl, fun b u hb _ => by rw [upd_ne (ne_of_none hb hD)]; exact hb, fun _ h => .inl h, fun b m hb => by
    have n : b ≠ D := fun z => np.1 (z ▸ m)
    rw [upd_ne n]; exact hb, rfl⟩
  refine ⟨e, R.len, R.nd, fun l ob hl => ?_, fun a m => ?_, fun a m c u q => ?_⟩
  · obtain ⟨a, h1, h2⟩ := R.ob l ob hl
    exact ⟨a, h1, h2.ext e (upd_ne fun z => np.1 (z ▸ List.mem_of_getElem? h1))⟩
  · rcases List.mem_cons.mp m with z | z
    · subst z; exact ⟨by rw [upd_same]; simp, np.1⟩
    · exact ⟨by rw [upd_ne (fun q : a = D => np.2 (q ▸ z))]; exact (R.tk a z).1, (R.tk a z).2⟩
  · rcases List.mem_cons.mp m with z | z
    · subst z; rw [upd_same] at q; exact ho c u (Option.some.inj q)
    · rw [upd_ne (fun q : a = D => np.2 (q ▸ z))] at q; exact R.tp a z c u q
theorem Out.noxbind {α β γ δ : Type} {E : EK} {R : Rl β α} {R' : Rl δ γ} {ρ1 ρ3 : RT} {H1 H3 : Hp} {r : Res α} {k : α → Store → Res γ} {Q : δ → Hp → Prop} {Z : β → Hp → Prop} (h : Out K mg R' E ρ1 H1 ((nox r).bind k) Q)
    (f : ∀ ρ4 H4 a b S4, Ext ρ3 H3 ρ4 H4 → RepS K mg ρ4 H4 S4 → R ρ4 H4 a b → Out K mg R' E ρ1 H1 (k a S4) Q → Z b H4) : Out K mg R EN ρ3 H3 r Z := by
  cases r with
  | ok w S => exact fun ρ4 H4 v e rep rw => f ρ4 H4 w v S e rep rw h
  | exc c ns ws S => exact h.elim
  | bad => exact h
end
theorem Res.bind_bind {α β γ : Type} (r : Res α) (k : α → Store → Res β) (l : β → Store → Res γ) : (r.bind k).bind l = r.bind fun a S => (k a S).bind l := by cases r <;> rfl
section
variable {X : Cx} {E : EK} {pos : Pos} {tg iter elt : Expr} {ifs : List Expr} {scope : Scope} {own : List (Str × Nat)} {mi : SM ItW} {g : GM} {t : SM Bool} {me : SM W} {vs : List Nat}
/-- one turn of a comprehension, the list so far at D -/
theorem lcT_of {ρ1 ρ : RT} {H1 H : Hp} {s0 : Env'} {σ : L2.St} {D : Addr} {acc : List W} {accV : List V} {S : Store} {w : W} {x : V} {γ δ : Type} {R' : Rl δ γ} {k : List W → Store → Res γ} {Q : δ → Hp → Prop} {Nx : Hp → Prop}
    (rep : RepS X.K X.mg ρ H S) (hD : D ∈ ρ.t) (env : REnv X.K X.mg ρ H E s0 (wipe σ vs)) (r : RW X.K X.mg ρ H w x) (hd : H D = some (.lst accV)) (ra : RWs X.K X.mg ρ H acc accV)
    (o : Out X.K X.mg R' E ρ1 H1 ((mLcT g t me s0 w acc S).bind k) Q)
    (hN : ∀ ρ' H' acc' accV' S', (∃ H2, Ext ρ H ρ' H2 ∧ ∃ u, H' = upd H2 D u ∨ H' = H2) → RepS X.K X.mg ρ' H' S' → H' D = some (.lst accV') → RWs X.K X.mg ρ' H' acc' accV' → Out X.K X.mg R' E ρ1 H1 (k acc' S') Q → Nx H') :
    tG X EN vs g x (wipe σ vs) H fun σ2 H2 => wipe σ2 vs = wipe σ vs ∧ tT X EN t σ2 H2 fun b H3 => if b = true then tE X EN me σ2 H3 fun y H4 => ∃ acc, H4 D = some (.lst acc) ∧ acc.length < sizeLine ∧ Nx (upd H4 D (.lst (acc ++ [y]))) else Nx H3 := by
  unfold mLcT at o
  rw [Res.bind_bind] at o
  refine ⟨ρ, s0, S, w, rep, env.no, r, Out.noxbind o fun ρ2 H2 s1 σ1 S2 e2 rep2 hh o2 => ⟨hh.2.trans (wipe_wipe fun _ h => h), ρ2, s1, S2, rep2, hh.1, ?_⟩⟩
  rw [Res.bind_bind] at o2
  refine Out.noxbind o2 fun ρ3 H3 b b' S3 e3 rep3 rb o3 => ?_
  cases rb
  have nr : D ∉ ρ.r := (rep.tk D hD).2
  have n2 : D ∉ ρ2.r := e2.not hd nr
  have hd2 := e2.keep _ _ hd nr
  have n3 : D ∉ ρ3.r := e3.not hd2 n2
  have hd3 := e3.keep _ _ hd2 n2
  have hD3 := e3.sub _ (e2.sub _ hD)
  cases b with
  | false =>
    rw [if_neg Bool.false_ne_true] at o3 ⊢
    exact hN ρ3 H3 acc accV S3 ⟨H3, e2.trans e3, .lst [], .inr rfl⟩ rep3 hd3 ((ra.ext e2).ext e3) o3
  | true =>
    rw [if_pos rfl] at o3 ⊢
    rw [Res.bind_bind] at o3
    refine ⟨ρ3, s1, S3, rep3, hh.1.ext e3, Out.noxbind o3 fun ρ4 H4 y y' S4 e4 rep4 r4 o4 => ?_⟩
    have hd4 := e4.keep _ _ hd3 n3
    have hD4 := e4.sub _ hD3
    have ra4 := (((ra.ext e2).ext e3).ext e4)
    split at o4
    · rename_i hz
      refine ⟨accV, hd4, by rw [← ra.length]; exact lim_lt hz, hN ρ4 _ (acc ++ [y]) (accV ++ [y']) S4 ⟨H4, (e2.trans e3).trans e4, _, .inl rfl⟩ (rep4.flux hD4) upd_same ((ra4.append (.cons r4 .nil)).flux hD4) o4⟩
    · exact o4.elim
theorem lc_of {mk : List W → Store → Res W} {σ : L2.St} {H : Hp} {Q : VK}
    (fin : ∀ (ρ1 ρ : RT) (H1 H : Hp) (D : Addr) (acc : List W) (accV : List V) (S : Store), (∀ a, a ∈ ρ1.t → a ∈ ρ.t) → H1 D = none → Ext ρ1 H1 ρ H → RepS X.K X.mg ρ H S → D ∈ ρ.t → H D = some (.lst accV) → RWs X.K X.mg ρ H acc accV → RepS X.K X.mg ⟨ρ.r, ρ1.t, ρ.ce⟩ H S → D ∉ ρ1.t → Out X.K X.mg (RW X.K X.mg) E ρ1 H1 (mk acc S) Q → Q (.ref D) H)
    (h : tE X E (fun s S => (mi s S).bind fun it S1 => (mLcI it g t me (wipeW s vs) S1).bind mk) σ H Q) : tLc (tX X.K X.mg (RI X.K X.mg) E mi) (tG X EN vs g) (tT X EN t) (tE X EN me) vs σ H Q :=
  tX.bind h fun ρ1 H1 it J s S1 rep env r o => fun D hD => by
    have np := rep.fresh hD
    obtain ⟨e0, rep0⟩ := rep.more (o := .lst []) hD
    -- the state behind some turns
    have go : ∀ {ρ ρ' : RT} {H H' : Hp} {accV : List V}, Ext ρ1 H1 ρ H → D ∉ ρ.r → (∃ H2, Ext ρ H ρ' H2 ∧ ∃ u, H' = upd H2 D u ∨ H' = H2) → Ext ρ1 H1 ρ' H' := fun {ρ ρ' H H' accV} e nr ⟨H2, e2, u, hu⟩ => by
      rcases hu with rfl | rfl
      · have e3 := e.trans e2
        exact ⟨e3.pre, e3.sub, e3.newt, fun b o hb n => by rw [upd_ne (ne_of_none hb hD)]; exact e3.keep b o hb n, e3.new, fun b m hb => by
          by_cases z : b = D
          · subst z; rw [upd_same]; simp
          · rw [upd_ne z]; exact e3.still b m hb, e3.ce⟩
      · exact e.trans e2
    cases it with
    | fix ws =>
      refine ⟨fun i m H' => m = ws.length - i ∧ i ≤ ws.length ∧ ∃ ρ acc accV S, Ext ρ1 H1 ρ H' ∧ RepS X.K X.mg ρ H' S ∧ D ∈ ρ.t ∧ H' D = some (.lst accV) ∧ RWs X.K X.mg ρ H' acc accV ∧ Out X.K X.mg (RW X.K X.mg) E ρ1 H1 ((mLcL g t me (wipeW s vs) (ws.drop i) acc S).bind mk) Q,
        ⟨ws.length, by simp, Nat.zero_le _, ⟨ρ1.r, D :: ρ1.t, ρ1.ce⟩, [], [], S1, e0, rep0, List.mem_cons_self, upd_same, .nil, o⟩, ?_⟩
      rintro i m H' ⟨rfl, hle, ρ, acc, accV, S, e, rep', hDt, hd, ra, o'⟩
      have rr := r ρ H' S e rep' i
      by_cases hlt : i < ws.length
      · have hw : ws[i]? = some ws[i] := List.getElem?_eq_getElem hlt
        obtain ⟨go1, yl⟩ := rr.1 _ hw
        rw [List.drop_eq_getElem_cons hlt] at o'
        unfold mLcL at o'
        rw [Res.bind_bind] at o'
        refine .inr ⟨go1, fun H2 => ∃ ρ acc accV S, Ext ρ1 H1 ρ H2 ∧ RepS X.K X.mg ρ H2 S ∧ D ∈ ρ.t ∧ H2 D = some (.lst accV) ∧ RWs X.K X.mg ρ H2 acc accV ∧ Out X.K X.mg (RW X.K X.mg) E ρ1 H1 ((mLcL g t me (wipeW s vs) (ws.drop (i + 1)) acc S).bind mk) Q, fun H2 h2 => ⟨ws.length - (i + 1), by omega, rfl, hlt, h2⟩, fun x H2 hy => ?_⟩
        obtain ⟨e2, rep2, r2⟩ := yl x H2 hy
        have nr := (rep'.tk D hDt).2
        refine lcT_of rep2 hDt ((env_wipe env vs).ext (e.trans e2)) r2 (e2.keep _ _ hd nr) (ra.ext e2) o' fun ρ3 H3 acc3 accV3 S3 hx rep3 hd3 ra3 o3 => ?_
        refine ⟨ρ3, acc3, accV3, S3, go (accV := []) (e.trans e2) nr hx, rep3, ?_, hd3, ra3, o3⟩
        obtain ⟨Hx, ex, _⟩ := hx
        exact ex.sub _ hDt
      · have hi : ws.length = i := by omega
        rw [List.drop_eq_nil_of_le (Nat.le_of_eq hi)] at o'
        exact .inl ⟨rr.2 hi, fin ρ1 ρ H1 H' D acc accV S e.sub hD e rep' hDt hd ra (rep'.less e.sub) np.2 o'⟩
    | gen l =>
      refine ⟨fun i m H' => ∃ ρ acc accV S, Ext ρ1 H1 ρ H' ∧ RepS X.K X.mg ρ H' S ∧ D ∈ ρ.t ∧ H' D = some (.lst accV) ∧ RWs X.K X.mg ρ H' acc accV ∧ Out X.K X.mg (RW X.K X.mg) E ρ1 H1 ((mLcN g t me (wipeW s vs) l m i acc S).bind mk) Q,
        ⟨turns, ⟨ρ1.r, D :: ρ1.t, ρ1.ce⟩, [], [], S1, e0, rep0, List.mem_cons_self, upd_same, .nil, o⟩, ?_⟩
      rintro i m H' ⟨ρ, acc, accV, S, e, rep', hDt, hd, ra, o'⟩
      cases m with
      | zero => exact o'.elim
      | succ m =>
        unfold mLcN at o'
        have rr := r ρ H' S e rep' i
        cases e1 : l i S with
        | none => rw [e1] at o'; exact o'.elim
        | some u =>
          rw [e1] at o' rr
          cases u with
          | none => exact .inl ⟨rr, fin ρ1 ρ H1 H' D acc accV S e.sub hD e rep' hDt hd ra (rep'.less e.sub) np.2 o'⟩
          | some w =>
            dsimp only at o'
            rw [Res.bind_bind] at o'
            obtain ⟨go1, yl⟩ := rr
            refine .inr ⟨go1, fun H2 => ∃ ρ acc accV S, Ext ρ1 H1 ρ H2 ∧ RepS X.K X.mg ρ H2 S ∧ D ∈ ρ.t ∧ H2 D = some (.lst accV) ∧ RWs X.K X.mg ρ H2 acc accV ∧ Out X.K X.mg (RW X.K X.mg) E ρ1 H1 ((mLcN g t me (wipeW s vs) l m (i + 1) acc S).bind mk) Q, fun H2 h2 => ⟨m, Nat.lt_succ_self m, h2⟩, fun x H2 hy => ?_⟩
            obtain ⟨e2, rep2, r2⟩ := yl x H2 hy
            have nr := (rep'.tk D hDt).2
            refine lcT_of rep2 hDt ((env_wipe env vs).ext (e.trans e2)) r2 (e2.keep _ _ hd nr) (ra.ext e2) o' fun ρ3 H3 acc3 accV3 S3 hx rep3 hd3 ra3 o3 => ?_
            refine ⟨ρ3, acc3, accV3, S3, go (accV := []) (e.trans e2) nr hx, rep3, ?_, hd3, ra3, o3⟩
            obtain ⟨Hx, ex, _⟩ := hx
            exact ex.sub _ hDt
noncomputable def PTsM (X : Cx) (E : EK) (ifs : List Expr) (m : SM Bool) : Prop := PTs X ifs (tT X E m)
noncomputable def mYes : SM Bool := fun _ S => .ok true S
theorem pts_imp {X : Cx} {e : List Expr} {t t' : TT} (h : PTs X e t) (f : ∀ σ H Q, t' σ H Q → t σ H Q) : PTs X e t' := ⟨fun pins s σ H Q I q => h.run pins s σ H Q I (f σ H Q q)⟩
theorem ptsm_nil : PTsM X E [] mYes := pts_imp pts_nil fun σ H Q ⟨ρ, s, S, rep, env, o⟩ => Out.here o rep rfl
theorem ptsm_one {c : Expr} {nc : SM Bool} (h : PTM X E c nc) : PTsM X E [c] nc := pts_one h
noncomputable abbrev slots (own : List (Str × Nat)) : List Nat := own.map (·.2)
/-- the block's part of a comprehension, at every entry -/
structure Blk (X : Cx) (scope : Scope) (tg : Expr) (ifs : List Expr) (elt : Expr) (vs : List Nat) (g : GM) (t : SM Bool) (me : SM W) : Prop where
  g : ∀ (s : Shared) (H : Hp) (C : Addr) (cl : List (Str × Addr)) (fp : List Addr), PGM (X.blk s H scope (compEnvC scope cl C X.env) fp) EN tg vs g
  t : ∀ (s : Shared) (H : Hp) (C : Addr) (cl : List (Str × Addr)) (fp : List Addr), PTsM (X.blk s H scope (compEnvC scope cl C X.env) fp) EN ifs t
  e : ∀ (s : Shared) (H : Hp) (C : Addr) (cl : List (Str × Addr)) (fp : List Addr), PM (X.blk s H scope (compEnvC scope cl C X.env) fp) EN elt me
theorem lc_fin {ρ1 ρ : RT} {H1 H : Hp} {D : Addr} {acc : List W} {accV : List V} {S : Store} {Q : VK} (hD : H1 D = none) (e : Ext ρ1 H1 ρ H) (rep : RepS X.K X.mg ρ H S) (hDt : D ∈ ρ.t) (hd : H D = some (.lst accV)) (ra : RWs X.K X.mg ρ H acc accV) (rep2 : RepS X.K X.mg ⟨ρ.r, ρ1.t, ρ.ce⟩ H S) (nt : D ∉ ρ1.t)
    (o : Out X.K X.mg (RW X.K X.mg) E ρ1 H1 (.ok (.lst acc) S) Q) : Q (.ref D) H :=
  o ⟨ρ.r, ρ1.t, ρ.ce⟩ H (.ref D) ⟨e.pre, fun _ h => h, fun _ h => .inl h, e.keep, e.new, e.still, e.ce⟩ rep2 (.lst ⟨hd, (rep.tk D hDt).2, nt⟩ (ra.less e.sub))
theorem pm_lc (hc : X.calm = true) (hN : X.N.Nodup) (hi : PIM' X E tg iter mi) (ok : blkC X.N X.env.scope scope own = true) (hb : Blk X scope tg ifs elt (slots own) g t me) (hs : ∀ x, foldedSetIterable iter X.env x = pure x := by intro _; rfl) :
    PM X E (.ListComp elt [⟨tg, iter, ifs, 0⟩] scope pos) (mLc mi (slots own) g t me) :=
  pe_imp (pe_lc (g := tG X EN (slots own) g) (tt := tT X EN t) (te := tE X EN me) hc hN hi (blkOk_by ok) hb.g hb.t hb.e hs) fun σ H Q h => lc_of (fun ρ1 ρ H1 H D acc accV S _ hD e rep hDt hd ra rep2 nt o => lc_fin hD e rep hDt hd ra rep2 nt o) h
/-- y = [..] -/
theorem psm_setLc (i : Nat) {y : Str} {py spos : Pos} (hc : X.calm = true) (hN : X.N.Nodup) (hi : PIM' X E tg iter mi) (ok : blkC X.N X.env.scope scope own = true) (hb : Blk X scope tg ifs elt (slots own) g t me) (hy : X.N[i]? = some y := by rfl) (hyl : X.env.scope.names.lookup y = some .local := by rfl)
    (hsw : swapsWith (.ListComp elt [⟨tg, iter, ifs, 0⟩] scope pos) (some (.Name y py)) spos.line X.env = pure true := by exact sw_true rfl rfl rfl (by decide +kernel)) (hs : ∀ x, foldedSetIterable iter X.env x = pure x := by intro _; rfl) :
    PSM X E (.Assign [.Name y py] (.ListComp elt [⟨tg, iter, ifs, 0⟩] scope pos) spos) (mAsg (mLc mi (slots own) g t me) (gNm i)) :=
  ps_imp (ps_setLc (g := tG X EN (slots own) g) (tt := tT X EN t) (te := tE X EN me) hc hN hy hyl hsw hi (blkOk_by ok) hb.g hb.t hb.e hs) fun D σ H ⟨ρ, s, S, rep, env, o⟩ => lc_of (E := E) (fun ρ1 ρ H1 H D acc accV S _ hD e rep hDt hd ra rep2 nt o => lc_fin hD e rep hDt hd ra rep2 nt o)
    ⟨ρ, s, S, rep, env, OutS.bind o fun ρ1 H1 w x S1 e1 rep1 r1 o1 => OutS.nx (s := s.set i (some w)) o1 rep1 ((env.ext e1).set i r1)⟩
end
end RL
end
section
set_option maxRecDepth 100000
set_option maxHeartbeats 2000000
namespace RL
open PySem PySem.Spec L2
open PyProof.Rows hiding St
variable [Lams]
/-! ### defs -/
/-- what a def is worth: a function of the arguments and the store -/
noncomputable abbrev Fn := List W → Store → Res W
noncomputable def spM (K : PySem.W.Frag) (mg : Str → Option Value) (n : Nat) (g : Fn) : Sp := fun vs H Q E => ∃ ρ S ws, RepS K mg ρ H S ∧ RWs K mg ρ H ws vs ∧ ws.length = n ∧ Out K mg (RW K mg) E ρ H (g ws S) Q
noncomputable def startW (n : Nat) (ws : List W) : Env' := ws.map some ++ List.replicate (n - ws.length) none
/-- a body run at the arguments; n: the slots -/
noncomputable def runB (n : Nat) (m : SS) : Fn := fun ws S => (m (startW n ws) S).bind fun p S1 => match p with
  | (.nx, _) => .ok .non S1
  | (.rt w, _) => .ok w S1
  | _ => .bad
noncomputable abbrev FnM (P : Program) (w : World) (K : PySem.W.Frag) (mg : Str → Option Value) (base : Heap) (k : Nat) (f : Addr) (fd : FuncData) (ps : List Str) (n : Nat) (g : Fn) : Prop := FnOk P w K mg base (L2.CX P w) k f fd ps (spM K mg n g)
section
variable {P : Program} {w : World} {K : PySem.W.Frag} {mg : Str → Option Value} {base : Heap}
theorem env_start {E : EK} {ρ : RT} {H : Hp} {ws : List W} {vs : List V} {N : List Str} (r : RWs K mg ρ H ws vs) (hce : ∀ y c, E.ce y = some c → ρ.ce y = some c) : REnv K mg ρ H E (startW N.length ws) (L2.start N vs) := by
  have hl := r.length
  refine ⟨hce, by simp [startW, L2.start, hl], fun i u hi => ?_⟩
  unfold startW at hi
  by_cases h : i < ws.length
  · rw [List.getElem?_append_left (by simpa using h), List.getElem?_map] at hi
    cases e : ws[i]? with
    | none => rw [e] at hi; cases hi
    | some u' =>
      rw [e] at hi
      cases (Option.some.inj (Option.some.inj hi) : u' = u)
      obtain ⟨v, h1, h2⟩ := r.get e
      refine ⟨v, ?_, h2⟩
      unfold L2.start
      rw [List.getElem?_append_left (by simpa [← hl] using h), List.getElem?_map, h1]
      rfl
  · rw [List.getElem?_append_right (by simpa using h), List.getElem?_replicate] at hi
    split at hi <;> cases hi
/-- a def, by its body -/
theorem fn_m {x qual : Str} {st : Stmt} {f : Addr} {fd : FuncData} {N ps : List Str} {k : Nat} {m : SS} (F : Fun K x qual st f fd) (Sc : FnScope N ps (defScope st))
    (hb : ∀ (cdv : Value) (A : Around) (outer : List Env) (s : Shared) (H : Hp) (E : EK), Room k (A.deeper (envOfC qual (defScope st) s.heap.objs.size f cdv)) → Takes (cxOf (L2.CX P w) P w K mg base N qual (defScope st) f cdv A outer s H E) (fun c d _ H => E c d H) → PSsM (cxOf (L2.CX P w) P w K mg base N qual (defScope st) f cdv A outer s H E) E (defBody st) m) :
    FnM P w K mg base (k + 1) f fd ps ps.length (runB N.length m) := by
  refine F.okX Sc (fun vs H Q E h => ?_) (fun cdv A outer s H vs Q E hr h => ⟨_, hb cdv A outer s H ⟨E, fun _ => none⟩ hr (takes_of rfl rfl rfl rfl), ?_⟩)
  · obtain ⟨ρ, S, ws, rep, rs, hn, _⟩ := h
    rw [← rs.length]; exact hn
  · obtain ⟨ρ, S, ws, rep, rs, hn, o⟩ := h
    refine ⟨ρ, startW N.length ws, S, rep, env_start rs (fun _ _ q => nomatch q), ?_⟩
    unfold runB at o
    show OutS K mg ⟨E, fun _ => none⟩ ρ H (m (startW N.length ws) S) _
    cases e : m (startW N.length ws) S with
    | ok p S1 =>
      obtain ⟨fl, s1⟩ := p
      rw [e] at o
      cases fl with
      | nx => exact fun ρ' H' σ' x rep' env' => o ρ' H' .non x rep' .non
      | rt u => exact o
      | bk => exact o.elim
      | ct => exact o.elim
    | exc c ns ws' S1 => rw [e] at o; exact o
    | bad => rw [e] at o; exact o
theorem fn_bad {f : Addr} {fd : FuncData} {ps : List Str} {k n : Nat} : FnM P w K mg base k f fd ps n (fun _ _ => .bad) :=
  ⟨fun vs H Q E ⟨_, _, _, _, _, _, o⟩ => o.elim, fun _ _ _ _ _ _ _ _ _ _ _ _ _ ⟨_, _, _, _, _, _, o⟩ => o.elim⟩
end
section
variable {X : Cx} {E : EK} {pos : Pos} {a : Expr} {es : List Expr} {mr : SM (List W)} {k n : Nat} {f : Addr} {fd : FuncData} {ps : List Str} {g : Fn} {x : Str} {p : Pos}
theorem passM (tk : Takes X (fun c d _ H => E c d H)) : Passes (L2.CX X.prog X.w) X E := passes_call tk fun _ _ _ _ h => h
theorem call_sp {σ : L2.St} {H : Hp} {Q : VK} (h : tE X E (mAp g mr) σ H Q) (hn : ∀ s S ws S', mr s S = .ok ws S' → ws.length = n) : tCall (spM X.K X.mg n g) [] E (tA X E mr) σ H Q := by
  obtain ⟨ρ, s, S, rep, env, o⟩ := h
  refine ⟨ρ, s, S, rep, env, ?_⟩
  unfold mAp at o
  cases e : mr s S with
  | ok ws S1 =>
    rw [e] at o
    exact fun ρ1 H1 vs x rep1 r => ⟨ρ1, S1, ws, rep1, by rw [List.append_nil]; exact r, hn _ _ _ _ e, Out.ext x o⟩
  | exc c ns ws S1 => rw [e] at o; exact o
  | bad => rw [e] at o; exact o
/-- how many arguments -/
class Len (mr : SM (List W)) (n : outParam Nat) : Prop where
  len : ∀ s S ws S', mr s S = .ok ws S' → ws.length = n
theorem len_nil : Len mNil 0 := ⟨fun s S ws S' h => by cases h; rfl⟩
theorem len_cons {m : SM W} {mr : SM (List W)} {n : Nat} (h : Len mr n) : Len (mCons m mr) (n + 1) := ⟨fun s S ws S' e => by
  unfold mCons at e
  cases e1 : m s S with
  | ok w S1 =>
    rw [e1] at e
    have e : (mr s S1).bind (fun ws S2 => Res.ok (w :: ws) S2) = .ok ws S' := e
    cases e2 : mr s S1 with
    | ok us S2 =>
      rw [e2] at e
      cases e
      rw [List.length_cons, h.len _ _ _ _ e2]
    | exc c ns ws S2 => rw [e2] at e; cases e
    | bad => rw [e2] at e; cases e
  | exc c ns ws S1 => rw [e1] at e; cases e
  | bad => rw [e1] at e; cases e⟩
noncomputable instance : Len mNil 0 := len_nil
noncomputable instance {m : SM W} {mr : SM (List W)} {n : Nat} [h : Len mr n] : Len (mCons m mr) (n + 1) := len_cons h
/-- f(e, ..) -/
theorem pm_call [hl : Len mr n] (F : FnM X.prog X.w X.K X.mg X.base k f fd ps n g) (hr : Room k X.A) (hm : X.mg x = some (.ref f)) (hk : PySem.W.keepIn X.K (.ref f) = true) (hb : Binds X.K fd ps []) (tk : Takes X (fun c d _ H => E c d H)) (ha : PAM X E (a :: es) mr)
    (hg : Gl X x := by rfl) (hdb : (x == ("__debug__" : Str)) = false := by decide +kernel) (he : starEach (a :: es) X.env = (false, eval a X.env) :: starEach es X.env := by rfl) (hpl : (backTo pos (starEach es X.env)).any (·.1) = false := by rfl) : PM X E (.Call (.Name x p) (a :: es) [] pos) (mAp g mr) :=
  pe_imp (pe_call F hr hg hm hk hb .nil (passM tk) ha hdb he hpl) fun σ H Q h => call_sp h hl.len
/-! ### methods of built-in types -/
variable {o : Expr} {mo : SM W} {T id : String} {name : Str} {apos : Pos}
end
/-! ### the law's end -/
theorem cx_end {P : Program} {w : World} {H : Hp} {s : Shared} {e : Value} {s' : Shared} (h : L2.CX P w [] H s (fun _ _ _ => False) e s') : False := by
  obtain ⟨_, _, _, _, _, _, _, _, _, _, _, _, z⟩ := h
  exact z
end RL
namespace RL
open PySem PySem.Spec L2
open PyProof.Rows hiding St
variable [Lams]
/-! ### defs by their names -/
noncomputable def FTx (K : PySem.W.Frag) (mg : Str → Option Value) (x : Str) (st : Stmt) (ps : List Str) : Prop := ∃ f fd, Fun K x x st f fd ∧ mg x = some (.ref f) ∧ Binds K fd ps []
/-- a def of the module that is worth g -/
noncomputable def FnE (P : Program) (w : World) (K : PySem.W.Frag) (mg : Str → Option Value) (base : Heap) (k : Nat) (x : Str) (st : Stmt) (ps : List Str) (g : Fn) : Prop :=
  ∃ f fd, mg x = some (.ref f) ∧ Fun K x x st f fd ∧ Binds K fd ps [] ∧ FnM P w K mg base k f fd ps ps.length g
section
variable {P : Program} {w : World} {K : PySem.W.Frag} {mg : Str → Option Value} {base : Heap}
theorem fn_e {x : Str} {st : Stmt} {N ps : List Str} {k : Nat} {m : SS} (T : FTx K mg x st ps) (Sc : FnScope N ps (defScope st))
    (hb : ∀ (f : Addr) (cdv : Value) (A : Around) (outer : List Env) (s : Shared) (H : Hp) (E : EK), Room k (A.deeper (envOfC x (defScope st) s.heap.objs.size f cdv)) → Takes (cxOf (L2.CX P w) P w K mg base N x (defScope st) f cdv A outer s H E) (fun c d _ H => E c d H) → PSsM (cxOf (L2.CX P w) P w K mg base N x (defScope st) f cdv A outer s H E) E (defBody st) m) :
    FnE P w K mg base (k + 1) x st ps (runB N.length m) := by
  obtain ⟨f, fd, F, hm, hb'⟩ := T
  exact ⟨f, fd, hm, F, hb', fn_m F Sc (hb f)⟩
theorem fnE_bad {x : Str} {st : Stmt} {ps : List Str} {k : Nat} (T : FTx K mg x st ps) : FnE P w K mg base k x st ps (fun _ _ => .bad) := by
  obtain ⟨f, fd, F, hm, hb'⟩ := T
  exact ⟨f, fd, hm, F, hb', fn_bad⟩
theorem ftx_mk {x : Str} {st : Stmt} {ps : List Str} {h : Heap} {f : Addr} {oc : Value} {od an : Option Addr} {sl : Array (Option Value)} {kV dc pm cd ct : Value} (X : K.In h) (G : h.Ns mainGlobals mg) (a : PySem.W.nsIn K mainGlobals x = some (some (.ref f)))
    (l : K.lookup f = some ⟨oc, od, .func (PySem.W.fnOf x x (defArgs st) (defBody st) (defScope st) .none kV dc pm an cd ct), sl⟩) (c : PySem.W.codeIn K cd x = true) (k : PySem.W.keepIn K (.ref f) = true)
    (hb : ∀ (kV doc pm : Value) (an : Option Addr) (cdv ct : Value) (us : List Value), us.length = ps.length → bindArgs (PySem.W.fnOf x x (defArgs st) (defBody st) (defScope st) .none kV doc pm an cdv ct) ⟨us, []⟩ = pure (ps.zip us)) : FTx K mg x st ps :=
  let F := fun_mk (st := st) l c k
  ⟨f, _, F, PySem.W.mg_of X G a, F.binds hb⟩
end
/-- the items at these places -/
noncomputable def pIdx {α : Type} (idx : List Nat) (l : List α) : List α := idx.filterMap fun i => l[i]?
theorem pIdx_len {α : Type} {l : List α} : ∀ {idx : List Nat}, (∀ i ∈ idx, i < l.length) → (pIdx idx l).length = idx.length
  | [], _ => rfl
  | i :: r, h => by
    have ih := pIdx_len (l := l) (idx := r) fun j hj => h j (List.mem_cons_of_mem _ hj)
    have e : ∃ x, l[i]? = some x := ⟨_, List.getElem?_eq_getElem (h i List.mem_cons_self)⟩
    obtain ⟨x, e⟩ := e
    unfold pIdx at ih ⊢
    rw [List.filterMap_cons, e, List.length_cons, ih]
    rfl
theorem pIdx_vals {xs : List V} {us : List Value} (r : Vals xs us) : ∀ {idx : List Nat}, Vals (pIdx idx xs) (pIdx idx us)
  | [] => .nil
  | i :: t => by
    have ih := pIdx_vals r (idx := t)
    unfold pIdx at ih ⊢
    rw [List.filterMap_cons, List.filterMap_cons]
    cases e : xs[i]? with
    | none => rw [r.none_of e]; exact ih
    | some x =>
      obtain ⟨u, h1, h2⟩ := r.get e
      rw [h1]
      exact .cons h2 ih
theorem pIdx_rws {K : PySem.W.Frag} {mg : Str → Option Value} {ρ : RT} {H : Hp} {ws : List W} {xs : List V} (r : RWs K mg ρ H ws xs) : ∀ {idx : List Nat}, RWs K mg ρ H (pIdx idx ws) (pIdx idx xs)
  | [] => .nil
  | i :: t => by
    have ih := pIdx_rws r (idx := t)
    unfold pIdx at ih ⊢
    rw [List.filterMap_cons, List.filterMap_cons]
    cases e : ws[i]? with
    | none =>
      have : xs[i]? = none := List.getElem?_eq_none_iff.mpr (by rw [← r.length]; exact List.getElem?_eq_none_iff.mp e)
      rw [this]; exact ih
    | some x =>
      obtain ⟨u, h1, h2⟩ := r.get e
      rw [h1]
      exact .cons h2 ih
noncomputable def PKM (X : Cx) (E : EK) (kws : List Keyword) (m : SM (List W)) : Prop := PK X kws (tA X E m)
noncomputable def mCallK (idx : List Nat) (g : Fn) (mr mk : SM (List W)) : SM W := fun s S => (mr s S).bind fun us S1 => (mk s S1).bind fun ws S2 => g (pIdx idx (us ++ ws)) S2
section
variable {X : Cx} {E : EK} {pos : Pos} {a : Expr} {es : List Expr} {mr mk : SM (List W)} {k k' n : Nat} {g : Fn} {x : Str} {p : Pos} {st : Stmt} {ps : List Str} {kws : List Keyword}
theorem pm_callE [hl : Len mr n] (F : FnE X.prog X.w X.K X.mg X.base k x st ps g) (hr : Room k' X.A) (hk : k ≤ k') (tk : Takes X (fun c d _ H => E c d H)) (ha : PAM X E (a :: es) mr) (hn : n = ps.length := by rfl)
    (hg : Gl X x := by rfl) (hdb : (x == ("__debug__" : Str)) = false := by decide +kernel) (he : starEach (a :: es) X.env = (false, eval a X.env) :: starEach es X.env := by rfl) (hpl : (backTo pos (starEach es X.env)).any (·.1) = false := by rfl) : PM X E (.Call (.Name x p) (a :: es) [] pos) (mAp g mr) := by
  obtain ⟨f, fd, h1, h2, h3, h4⟩ := F
  subst hn
  exact pm_call h4 (hr.mono hk) h1 h2.kp h3 tk ha hg hdb he hpl
theorem pk_imp {t t' : TA} (h : PK X kws t) (f : ∀ σ H Q, t' σ H Q → t σ H Q) : PK X kws t' := ⟨fun pos pins s σ H Q I q => h.run pos pins s σ H Q I (f σ H Q q)⟩
theorem pkm_nil : PKM X E [] mNil := pk_imp pk_nil fun σ H Q ⟨ρ, s, S, rep, env, o⟩ => Out.here o rep .nil
theorem pkm_cons {nm : Option Str} {kpos : Pos} {ma : SM W} (ha : PM X E a ma) (hr : PKM X E kws mk) : PKM X E (⟨nm, a, kpos⟩ :: kws) (mCons ma mk) :=
  pk_imp (pk_cons ha hr) fun σ H Q h => tX.bind h fun ρ1 H1 w x s S1 rep env r o => ⟨ρ1, s, S1, rep, env, Out.bind o fun ρ2 H2 ws xs S2 e2 rep2 r2 o2 => Out.here o2 rep2 (.cons (r.ext e2) r2)⟩
end
theorem hu64 {k : Nat} {A : Around} (hr : Room k A) : A.units + 64 < cLine := hr.units
theorem hu65 {k : Nat} {A : Around} (hr : Room k A) : A.units + 65 < cLine := by have := hr.un; omega
noncomputable def mChT (g g' : W → W → Store → Res W) (ma mb mc : SM W) : SM Bool := fun s S => asB (mChain g g' ma mb mc s S)
theorem takesE0 {X : Cx} : Takes X (fun c d _ H => EN c d H) := takes0
/-- sep.join(list of texts) -/
noncomputable def strsW : List W → Option (List Str)
  | [] => some []
  | .str x :: r => (strsW r).map (x :: ·)
  | _ => none
theorem strsW_of {K : PySem.W.Frag} {mg : Str → Option Value} {ρ : RT} {H : Hp} : ∀ {ws : List W} {vs : List V} {bs : List Str}, RWs K mg ρ H ws vs → strsW ws = some bs → vs = bs.map V.str
  | _, _, _, .nil, h => by cases (Option.some.inj h : [] = _); rfl
  | _, _, _, .cons (w := w) (ws := ws) r t, h => by
    cases w with
    | str b =>
      cases e : strsW ws with
      | none => simp [strsW, e] at h
      | some bs =>
        simp [strsW, e] at h
        subst h
        cases r
        rw [strsW_of t e]
        rfl
    | _ => cases h
/-- a text's method of one argument -/
noncomputable def mM1 (g : Str → W → Store → Res W) (mo me : SM W) : SM W := fun s S => (mo s S).bind fun o S1 => match o with
  | .str a => (me s S1).bind fun w S2 => g a w S2
  | _ => .bad
noncomputable def gJoin (a : Str) (w : W) (S : Store) : Res W := match (seqA S w).bind strsW with
  | some ys => if (ys.map (·.length)).sum + ys.length * a.length ≤ 16777216 then .ok (.str (Txt.join a ys)) S else .bad
  | none => .bad
theorem m1_of {X : Cx} {E : EK} {mo me : SM W} {g : Str → W → Store → Res W} {r : V → List V → Hp → VK → Prop} (hr : ∀ ρ H S a w x Q, RepS X.K X.mg ρ H S → RW X.K X.mg ρ H w x → Out X.K X.mg (RW X.K X.mg) E ρ H (g a w S) Q → r (.str a) [x] H Q) {σ : L2.St} {H : Hp} {Q : VK} (h : tE X E (mM1 g mo me) σ H Q) :
    tM1 r (tE X E mo) (tE X E me) σ H Q := tX.bind h fun ρ1 H1 w x s S1 rep env r o => by
  cases w with
  | str a =>
    cases r
    exact ⟨⟨a, rfl⟩, ρ1, s, S1, rep, env, Out.bind o fun ρ2 H2 w2 x2 S2 e2 rep2 r2 o2 => hr ρ2 H2 S2 a w2 x2 Q rep2 r2 o2⟩
  | _ => exact o.elim
theorem pm_join {X : Cx} {E : EK} {o e : Expr} {mo me : SM W} {apos pos : Pos} (ho : PM X E o mo) (he : PM X E e me) (hs : starEach [e] X.env = [(false, eval e X.env)] := by rfl) (hbase : attributeBase o "join" X.env (eval o X.env) = eval o X.env := by rfl) (hline : (apos.endLine == pos.line) = true := by rfl) :
    PM X E (.Call (.Attribute o "join" apos) [e] [] pos) (mM1 gJoin mo me) :=
  pe_imp (pe_join ho he hs hbase hline) fun σ H Q h => m1_of (fun ρ2 H2 S2 a w2 x2 Q rep2 r2 o2 => by
    unfold gJoin at o2
    cases e3 : seqA S2 w2 with
    | none => rw [e3] at o2; exact o2.elim
    | some ws =>
      rw [e3] at o2
      obtain ⟨p, vs, rfl, hl, hr, _⟩ := seqA_of rep2 r2 e3
      cases e4 : strsW ws with
      | none => simp only [Option.bind, e4] at o2; exact o2.elim
      | some ys =>
        simp only [Option.bind, e4] at o2
        have ev := strsW_of hr e4
        subst ev
        split at o2
        · rename_i hz; exact ⟨a, p, ys, rfl, rfl, hl, hz, Out.here o2 rep2 (.str _)⟩
        · exact o2.elim) h
/-- a module's constants -/
theorem kcon_str {K : PySem.W.Frag} {mg : Str → Option Value} {x y : Str} {h : Heap} {t : Tok} (X : K.In h) (G : h.Ns mainGlobals mg) (a : PySem.W.nsIn K mainGlobals x = some (some (.str y t))) : KCon K mg x (.str y) := ⟨_, .str y, PySem.W.mg_of X G a, ⟨t, rfl⟩, fun _ _ => .str y⟩
theorem kcon_int {K : PySem.W.Frag} {mg : Str → Option Value} {x : Str} {y : Int} {h : Heap} {t : Tok} (X : K.In h) (G : h.Ns mainGlobals mg) (a : PySem.W.nsIn K mainGlobals x = some (some (.int y t))) : KCon K mg x (.int y) := ⟨_, .int y, PySem.W.mg_of X G a, ⟨t, rfl⟩, fun _ _ => .int y⟩
/-- a tuple of texts -/
theorem kcon_tupS {K : PySem.W.Frag} {mg : Str → Option Value} {x : Str} {h : Heap} {b : Addr} {dd : Option Addr} {its : Array Value} {n : Nat} {sl : Array (Option Value)} {ys : List Str} (X : K.In h) (G : h.Ns mainGlobals mg) (a : PySem.W.nsIn K mainGlobals x = some (some (.ref b)))
    (l : K.lookup b = some ⟨.type "tuple", dd, .seq its n, sl⟩) (hz : its.size ≤ lim) (hs : its.toList.map absV = ys.map fun y => some (V.str y)) : KCon K mg x (.tup (ys.map W.str)) := by
  refine ⟨_, .ref b, PySem.W.mg_of X G a, rfl, fun ρ H => .tup (vs := ys.map V.str) (.inr ⟨_, its, n, l, rfl, rfl, lim_line hz, ?_⟩) ?_⟩
  · have : ∀ (us : List Value) (ys : List Str), us.map absV = (ys.map fun y => some (V.str y)) → Vals (ys.map V.str) us := by
      intro us
      induction us with
      | nil => intro ys h; cases ys with
        | nil => exact .nil
        | cons _ _ => cases h
      | cons u r ih =>
        intro ys h
        cases ys with
        | nil => cases h
        | cons y ys =>
          rw [List.map_cons, List.map_cons] at h
          have h1 := (List.cons.inj h).1
          refine .cons ?_ (ih ys (List.cons.inj h).2)
          cases u with
          | str z t =>
            cases (Option.some.inj h1 : V.str z = V.str y)
            exact ⟨t, rfl⟩
          | _ => cases h1
    exact this _ _ hs
  · clear hs
    induction ys with
    | nil => exact .nil
    | cons y r ih => exact .cons (.str y) ih
end RL
end
section
set_option maxRecDepth 100000
set_option maxHeartbeats 2000000
namespace RL
open PySem PySem.Spec L2
open PyProof.Rows hiding St
/-! ### the law's end -/
end RL
end
section
set_option maxRecDepth 100000
set_option maxHeartbeats 2000000
/-! Lambdas (1): the cells of a frame as pinned objects, laid down and taken up again. -/
namespace RL
open PySem PySem.Spec L2
open PyProof.Rows hiding St
variable [Lams]
open Lams
mutual
/-- no lambda in it -/
noncomputable def noClo : W → Bool
  | .tup ws => noClos ws
  | .lst ws => noClos ws
  | .flst ws => noClos ws
  | .dic _ ws => noClos ws
  | .ins _ _ ws => noClos ws
  | .exn _ _ ws => noClos ws
  | .lam _ => false
  | .clo _ _ => false
  | .non => true
  | .bl _ => true
  | .int _ => true
  | .str _ => true
  | .ty _ => true
  | .gl _ => true
  | .ref _ => true
noncomputable def noClos : List W → Bool
  | [] => true
  | w :: ws => noClo w && noClos ws
end
noncomputable def noCloO : Ob → Bool
  | .lst ws => noClos ws
  | .dic _ ws => noClos ws
  | .ins _ _ ws => noClos ws
  | .tab _ => true
noncomputable def noCloS (S : Store) : Bool := S.all noCloO
/-- the things at C are known no more -/
noncomputable def dropC (C : List Addr) (H : Hp) : Hp := fun b => if b ∈ C then none else H b
theorem dropC_in {C : List Addr} {H : Hp} {b : Addr} (h : b ∈ C) : dropC C H b = none := if_pos h
theorem dropC_out {C : List Addr} {H : Hp} {b : Addr} (h : b ∉ C) : dropC C H b = H b := if_neg h
noncomputable def Pins (C : List Addr) (H : Hp) : Prop := ∀ c ∈ C, ∃ o, H c = some (PinO c o)
theorem Pins.ne {C : List Addr} {H : Hp} (p : Pins C H) {b : Addr} {o : HO} (e : H b = some o) (n : ∀ c u, o ≠ PinO c u) : b ∉ C := fun m => by
  obtain ⟨u, q⟩ := p b m
  rw [e] at q
  exact n b u (Option.some.inj q)
theorem Pins.at {C : List Addr} {H : Hp} (p : Pins C H) {b : Addr} {o : HO} (e : H b = some o) (n : ∀ c u, o ≠ PinO c u) : dropC C H b = some o := by rw [dropC_out (p.ne e n)]; exact e
section
variable {K : PySem.W.Frag} {mg : Str → Option Value} {ρ : RT} {H : Hp} {C : List Addr} {S : Store}
theorem Fx.drop (p : Pins C H) {a : Addr} {o : HO} (h : Fx ρ H a o) (n : ∀ c u, o ≠ PinO c u := by intro _ _ z; cases z) : Fx ρ (dropC C H) a o := ⟨p.at h.1 n, h.2⟩
mutual
theorem RW.dropK (p : Pins C H) : ∀ {w : W} {v : V}, noClo w = true → RW K mg ρ H w v → RW K mg ρ (dropC C H) w v
  | _, _, _, .non => .non
  | _, _, _, .bl b => .bl b
  | _, _, _, .int b => .int b
  | _, _, _, .str b => .str b
  | _, _, _, .ty b => .ty b
  | _, _, _, .gl h => .gl h
  | _, _, _, .ref h => .ref h
  | _, _, n, .tup h r => .tup (h.imp (fun z => z.drop p) id) (RWs.dropK p n r)
  | _, _, n, .lst h r => .lst (h.drop p) (RWs.dropK p n r)
  | _, _, n, .flst h r => .flst (h.imp (fun ⟨o, z⟩ => ⟨o, z.drop p⟩) id) (RWs.dropK p n r)
  | _, _, n, .dic h hl r => .dic (h.drop p) hl (RWs.dropK p n r)
  | _, _, n, .ins hc h hl r => .ins hc (h.drop p) hl (RWs.dropK p n r)
  | _, _, n, .exn hc h hd hl r => .exn hc (h.drop p) (hd.drop p) hl (RWs.dropK p n r)
  | _, _, n, .lam _ _ _ _ _ => nomatch n
  | _, _, n, .clo _ _ _ _ _ _ _ _ => nomatch n
theorem RWs.dropK (p : Pins C H) : ∀ {ws : List W} {vs : List V}, noClos ws = true → RWs K mg ρ H ws vs → RWs K mg ρ (dropC C H) ws vs
  | _, _, _, .nil => .nil
  | w :: ws, _, n, .cons h t =>
    have n' : (noClo w && noClos ws) = true := n
    .cons (RW.dropK p (Bool.and_eq_true _ _ ▸ n').1 h) (RWs.dropK p (Bool.and_eq_true _ _ ▸ n').2 t)
end
theorem RO.drop (p : Pins C H) {a : Addr} {o : Ob} (n : noCloO o = true) (h : RO K mg ρ H a o) : RO K mg ρ (dropC C H) a o := by
  cases h with
  | lst h r => exact .lst (p.at h (by intro _ _ z; cases z)) (RWs.dropK p n r)
  | dic h hl r => exact .dic (p.at h (by intro _ _ z; cases z)) hl (RWs.dropK p n r)
  | ins hc h hl r => exact .ins hc (p.at h (by intro _ _ z; cases z)) hl (RWs.dropK p n r)
  | tab ht h hk hco => exact .tab ht (p.at h (by intro _ _ z; cases z)) hk fun pos cv q => let ⟨c, h1, h2⟩ := hco pos cv q; ⟨c, h1, h2.drop p⟩
theorem noCloS_at {l : Nat} {o : Ob} (n : noCloS S = true) (e : S[l]? = some o) : noCloO o = true := List.all_eq_true.mp n o (List.mem_of_getElem? e)
theorem RepS.drop (p : Pins C H) (n : noCloS S = true) (R : RepS K mg ρ H S) : RepS K mg ρ (dropC C H) S :=
  ⟨R.len, R.nd, fun l o hl => let ⟨a, h1, h2⟩ := R.ob l o hl; ⟨a, h1, h2.drop p (noCloS_at n hl)⟩, fun a m => ⟨by
    rw [dropC_out fun z => by obtain ⟨u, q⟩ := p a z; exact R.tp a m a u q]
    exact (R.tk a m).1, (R.tk a m).2⟩, fun a m c u q => by
    by_cases hz : a ∈ C
    · rw [dropC_in hz] at q; cases q
    · rw [dropC_out hz] at q; exact R.tp a m c u q⟩
theorem RO.not {a : Addr} {o : Ob} (p : Pins C H) (h : RO K mg ρ H a o) : a ∉ C := by
  cases h with
  | lst h r => exact p.ne h (by intro _ _ z; cases z)
  | dic h hl r => exact p.ne h (by intro _ _ z; cases z)
  | ins hc h hl r => exact p.ne h (by intro _ _ z; cases z)
  | tab ht h hk hco => exact p.ne h (by intro _ _ z; cases z)
theorem RepS.not (p : Pins C H) (R : RepS K mg ρ H S) {a : Addr} (m : a ∈ ρ.r) : a ∉ C := by
  obtain ⟨i, hi⟩ := List.mem_iff_getElem?.mp m
  have hs : i < S.length := by rw [← R.len]; exact (List.getElem?_eq_some_iff.mp hi).1
  obtain ⟨a', h1, h2⟩ := R.ob i S[i] (List.getElem?_eq_getElem hs)
  rw [hi] at h1; cases h1
  exact h2.not p
theorem RepS.notT (p : Pins C H) (R : RepS K mg ρ H S) {a : Addr} (m : a ∈ ρ.t) : a ∉ C := fun z => by
  obtain ⟨u, q⟩ := p a z
  exact R.tp a m a u q
/-! back again -/
/-- .. H0's things at C are known again -/
noncomputable def undropC (C : List Addr) (H0 H : Hp) : Hp := fun b => if b ∈ C then H0 b else H b
theorem undropC_in {C : List Addr} {H0 H : Hp} {b : Addr} (h : b ∈ C) : undropC C H0 H b = H0 b := if_pos h
theorem undropC_out {C : List Addr} {H0 H : Hp} {b : Addr} (h : b ∉ C) : undropC C H0 H b = H b := if_neg h
variable {ρ2 : RT} {H2 : Hp} {S2 : Store}
/-- laid back -/
theorem undrop_ext {H0 : Hp} (hC : ∀ c ∈ C, H2 c = none) (R2 : RepS K mg ρ2 H2 S2) : Ext ρ2 H2 ρ2 (undropC C H0 H2) :=
  ⟨fun _ _ h => h, fun _ h => h, fun _ h => .inl h, fun b o e _ => by rw [undropC_out fun z => by rw [hC b z] at e; cases e]; exact e, fun _ h => .inl h, fun b _ e => by
    rw [undropC_out fun z => e (hC b z)]; exact e, rfl⟩
theorem undrop_rep {H0 : Hp} (hC : ∀ c ∈ C, H2 c = none) (R2 : RepS K mg ρ2 H2 S2) : RepS K mg ρ2 (undropC C H0 H2) S2 := by
  have e := undrop_ext (H0 := H0) hC R2
  have at_ : ∀ a, H2 a ≠ none → undropC C H0 H2 a = H2 a := fun a n => undropC_out fun z => n (hC a z)
  refine ⟨R2.len, R2.nd, fun l o hl => ?_, fun a m => ⟨?_, (R2.tk a m).2⟩, fun a m c u => ?_⟩
  · obtain ⟨a, h1, h2⟩ := R2.ob l o hl
    obtain ⟨u, hu⟩ := h2.there
    exact ⟨a, h1, h2.ext e (at_ a (by rw [hu]; simp))⟩
  · rw [at_ a (R2.tk a m).1]; exact (R2.tk a m).1
  · rw [at_ a (R2.tk a m).1]; exact R2.tp a m c u
/-- the whole way: down, along, up -/
theorem drop_through {ρ1 : RT} {H1 : Hp} {S1 : Store} (p : Pins C H1) (R1 : RepS K mg ρ1 H1 S1) (hC : ∀ c ∈ C, H2 c = none) (R2 : RepS K mg ρ2 H2 S2) (e : Ext ρ1 (dropC C H1) ρ2 H2) : Ext ρ1 H1 ρ2 (undropC C H1 H2) where
  pre := e.pre
  sub := e.sub
  newt := fun b m => by
    rcases e.newt b m with z | z
    · exact .inl z
    · by_cases hb : b ∈ C
      · exact absurd (hC b hb) (R2.tk b m).1
      · rw [dropC_out hb] at z; exact .inr z
  keep := fun b o h n => by
    by_cases hb : b ∈ C
    · rw [undropC_in hb]; exact h
    · rw [undropC_out hb]; exact e.keep b o (by rw [dropC_out hb]; exact h) n
  new := fun b m => by
    rcases e.new b m with z | z
    · exact .inl z
    · by_cases hb : b ∈ C
      · obtain ⟨u, hu⟩ := R2.mem m
        rw [hC b hb] at hu; cases hu
      · rw [dropC_out hb] at z; exact .inr z
  still := fun b m n => by
    by_cases hb : b ∈ C
    · rw [undropC_in hb]; exact n
    · rw [undropC_out hb]; exact e.still b m (by rw [dropC_out hb]; exact n)
  ce := e.ce
/-- the other way: up, along, down -/
theorem add_through {ρ1 : RT} {H1 Hp1 : Hp} {S1 : Store} (n1 : ∀ c ∈ C, H1 c = none) (same : ∀ b, b ∉ C → Hp1 b = H1 b) (there : ∀ c ∈ C, ∃ o, Hp1 c = some (PinO c o)) (R1 : RepS K mg ρ1 H1 S1) (p2 : Pins C H2) (R2 : RepS K mg ρ2 H2 S2) (e : Ext ρ1 Hp1 ρ2 H2) : Ext ρ1 H1 ρ2 (dropC C H2) where
  pre := e.pre
  sub := e.sub
  newt := fun b m => by
    rcases e.newt b m with z | z
    · exact .inl z
    · have hb : b ∉ C := R2.notT p2 m
      rw [same b hb] at z; exact .inr z
  keep := fun b o h n => by
    have hb : b ∉ C := fun z => by rw [n1 b z] at h; cases h
    rw [dropC_out hb]; exact e.keep b o (by rw [same b hb]; exact h) n
  new := fun b m => by
    rcases e.new b m with z | z
    · exact .inl z
    · have hb : b ∉ C := R2.not p2 m
      rw [same b hb] at z; exact .inr z
  still := fun b m n => by
    have hb : b ∉ C := fun z => n (n1 b z)
    rw [dropC_out hb]; exact e.still b m (by rw [same b hb]; exact n)
  ce := e.ce
/-- the cells are laid down -/
theorem add_ext {ρ1 : RT} {H1 Hp1 : Hp} {S1 : Store} (n1 : ∀ c ∈ C, H1 c = none) (same : ∀ b, b ∉ C → Hp1 b = H1 b) (R1 : RepS K mg ρ1 H1 S1) : Ext ρ1 H1 ρ1 Hp1 ∧ RepS K mg ρ1 Hp1 S1 := by
  have nc : ∀ b, H1 b ≠ none → b ∉ C := fun b n z => n (n1 b z)
  have e : Ext ρ1 H1 ρ1 Hp1 := ⟨fun _ _ h => h, fun _ h => h, fun _ h => .inl h, fun b o h _ => by rw [same b (nc b (by rw [h]; simp))]; exact h, fun _ h => .inl h, fun b _ h => by rw [same b (nc b h)]; exact h, rfl⟩
  refine ⟨e, R1.len, R1.nd, fun l o hl => ?_, fun a m => ⟨?_, (R1.tk a m).2⟩, fun a m c u => ?_⟩
  · obtain ⟨a, h1, h2⟩ := R1.ob l o hl
    obtain ⟨u, hu⟩ := h2.there
    exact ⟨a, h1, h2.ext e (same a (nc a (by rw [hu]; simp)))⟩
  · rw [same a (nc a (R1.tk a m).1)]; exact (R1.tk a m).1
  · rw [same a (nc a (R1.tk a m).1)]; exact R1.tp a m c u
end
/-! ### the model's side -/
section
variable {P : Program} {w : World} {H H' H2 : Hp} {h h' : Heap} {C : List Addr}
theorem HOk.drop (p : Pins C H) (x : HOk P w H h) : HOk P w (dropC C H) h := fun b u e => by
  have hb : b ∉ C := fun z => by rw [dropC_in z] at e; cases e
  rw [dropC_out hb] at e
  exact (x b u e).stay (fun _ _ _ q => q) (fun c q => p.at q (by intro _ _ z; cases z)) fun c xs q => p.at q (by intro _ _ z; cases z)
theorem HOk.add (n1 : ∀ c ∈ C, H c = none) (same : ∀ b, b ∉ C → H2 b = H b) (pin : ∀ c ∈ C, ∃ o, H2 c = some (PinO c o) ∧ h.get? c = some o) (x : HOk P w H h) : HOk P w H2 h := fun b u e => by
  by_cases hb : b ∈ C
  · obtain ⟨o, e1, e2⟩ := pin b hb
    rw [e1] at e; cases e
    exact pinO_ok e2
  · rw [same b hb] at e
    have nc : ∀ c u, H c = some u → H2 c = some u := fun c u q => by rw [same c fun z => by rw [n1 c z] at q; cases q]; exact q
    exact (x b u e).stay (fun _ _ _ q => q) (fun c q => nc c _ q) fun c xs q => nc c _ q
theorem HOk.undrop {B : Heap} (p : Pins C H) (hC : ∀ c ∈ C, H' c = none) (g : ∀ c ∈ C, ∀ o, H c = some (PinO c o) → B.get? c = some o) (x : HOk P w H' B) : HOk P w (undropC C H H') B := 
  HOk.add (C := C) hC (fun b hb => undropC_out hb) (fun c hc => by
    obtain ⟨o, e⟩ := p c hc
    exact ⟨o, by rw [undropC_in hc]; exact e, g c hc o e⟩) x
variable {fs : List Addr}
/-- behind a run with the pinned things unknown -/
theorem un_undrop (p : Pins C H) (hok : HOk P w H h) (u : Un fs [] (dropC C H) H' h h') (nf : ∀ c ∈ C, c ∉ fs) : Un fs [] H (undropC C H H') h h' where
  keep := fun b o e n hb hx => by
    have hc : b ∉ C := fun z => by obtain ⟨u, q⟩ := p b z; rw [n] at q; cases q
    exact u.keep b o e (by rw [dropC_out hc]; exact n) hb hx
  slot := fun b o e n hb hx => by
    have hc : b ∉ C := fun z => by obtain ⟨u, q⟩ := p b z; rw [n] at q; cases q
    exact u.slot b o e (by rw [dropC_out hc]; exact n) hb hx
  free := fun b o e n hx => by
    have hc : b ∉ C := fun z => by obtain ⟨u, q⟩ := p b z; rw [n] at q; cases q
    rw [undropC_out hc]
    exact u.free b o e (by rw [dropC_out hc]; exact n) hx
  there := u.there
  tups := fun b xs e => by
    have hc := p.ne e (by intro _ _ z; cases z)
    rw [undropC_out hc]; exact u.tups b xs (by rw [dropC_out hc]; exact e)
  frzs := fun b o v e => by
    by_cases hc : b ∈ C
    · rw [undropC_in hc]; exact e
    · rw [undropC_out hc]; exact u.frzs b o v (by rw [dropC_out hc]; exact e)
  tbls := fun b ps e => by
    have hc := p.ne e (by intro _ _ z; cases z)
    rw [undropC_out hc]; exact u.tbls b ps (by rw [dropC_out hc]; exact e)
/-- behind a run with more pinned things -/
theorem un_unadd (n1 : ∀ c ∈ C, H c = none) (same : ∀ b, b ∉ C → H2 b = H b) (pin : ∀ c ∈ C, ∃ o, H2 c = some (PinO c o) ∧ h.get? c = some o) (hok' : HOk P w H' h') (u : Un fs [] H2 H' h h') : Un fs [] H (dropC C H') h h' where
  keep := fun b o e n hb hx => by
    by_cases hc : b ∈ C
    · obtain ⟨o', e1, e2⟩ := pin b hc
      rw [e] at e2; cases e2
      exact (hok' b _ (u.frzs b o _ e1)).1
    · exact u.keep b o e (by rw [same b hc]; exact n) hb hx
  slot := fun b o e n hb hx => by
    by_cases hc : b ∈ C
    · obtain ⟨o', e1, e2⟩ := pin b hc
      rw [e] at e2; cases e2
      exact ⟨o.slots, (hok' b _ (u.frzs b o _ e1)).1⟩
    · exact u.slot b o e (by rw [same b hc]; exact n) hb hx
  free := fun b o e n hx => by
    by_cases hc : b ∈ C
    · exact dropC_in hc
    · rw [dropC_out hc]; exact u.free b o e (by rw [same b hc]; exact n) hx
  there := u.there
  tups := fun b xs e => by
    have hc : b ∉ C := fun z => by rw [n1 b z] at e; cases e
    rw [dropC_out hc]; exact u.tups b xs (by rw [same b hc]; exact e)
  frzs := fun b o v e => by
    have hc : b ∉ C := fun z => by rw [n1 b z] at e; cases e
    rw [dropC_out hc]; exact u.frzs b o v (by rw [same b hc]; exact e)
  tbls := fun b ps e => by
    have hc : b ∉ C := fun z => by rw [n1 b z] at e; cases e
    rw [dropC_out hc]; exact u.tbls b ps (by rw [same b hc]; exact e)
/-- the pinned things of H2 are pinned in what comes out -/
theorem un_pins (pin : ∀ c ∈ C, ∃ o, H2 c = some (PinO c o)) (u : Un fs [] H2 H' h h') : Pins C H' := fun c hc => by
  obtain ⟨o, e⟩ := pin c hc
  exact ⟨o, u.frzs c o _ e⟩
variable {outer : List Env} {s s' : Shared} {v : Value}
/-- the end of a call made with the pinned things unknown -/
theorem ce_undrop {Q Q' : VK} (p : Pins C H) (hok : HOk P w H s.heap) (nf : ∀ c ∈ C, c ∉ frs outer) (hq : ∀ v H', (∀ c ∈ C, H' c = none) → Q' v H' → Q v (undropC C H H')) (c : CE outer P w (dropC C H) s Q' v s') : CE outer P w H s Q v s' := by
  obtain ⟨x, H', os, bare, un, hok', r, q⟩ := c
  have hC : ∀ c ∈ C, H' c = none := fun c hc => by
    obtain ⟨o, e⟩ := p c hc
    exact un.free c o (hok c _ e).1 (dropC_in hc) (by simp)
  refine ⟨x, undropC C H H', os, bare, un_undrop p hok un nf, HOk.undrop p hC (fun c hc o e => ?_) hok', r, hq x H' hC q⟩
  exact un.keep c o (hok c _ e).1 (dropC_in hc) (nf c hc) (by simp)
theorem cx_undrop {E E' : XK} (p : Pins C H) (hok : HOk P w H s.heap) (nf : ∀ c ∈ C, c ∉ frs outer) (hq : ∀ cls d H', (∀ c ∈ C, H' c = none) → E' cls d H' → E cls d (undropC C H H')) (c : L2.CX P w outer (dropC C H) s E' v s') : L2.CX P w outer H s E v s' := by
  obtain ⟨a, B, H', cls, d, rfl, fl, hok', ub, na, os, bare, q⟩ := c
  have cg : ∀ c ∈ C, ∀ o, H c = some (PinO c o) → B.get? c = some o := fun c hc o e => ub.keep c o (hok c _ e).1 (dropC_in hc) (nf c hc)
  have hC : ∀ c ∈ C, H' c = none := fun c hc => by
    obtain ⟨o, e⟩ := p c hc
    exact ub.free c o (hok c _ e).1 (dropC_in hc)
  have ncn : ∀ b, H b = none → b ∉ C := fun b n z => by obtain ⟨u, q⟩ := p b z; rw [n] at q; cases q
  refine ⟨a, B, undropC C H H', cls, d, rfl, fl, HOk.undrop p hC cg hok', ⟨fun b o e n hb => ?_, fun b o e hb => ub.slot b o e hb, fun b o e n => ?_, ub.there, fun b xs e => ?_, fun b o xs e => ?_, fun b ps e => ?_⟩, ?_, os, bare, hq cls d H' hC q⟩
  · exact ub.keep b o e (by rw [dropC_out (ncn b n)]; exact n) hb
  · rw [undropC_out (ncn b n)]; exact ub.free b o e (by rw [dropC_out (ncn b n)]; exact n)
  · have hc := p.ne e (by intro _ _ z; cases z)
    rw [undropC_out hc]; exact ub.tups b xs (by rw [dropC_out hc]; exact e)
  · by_cases hc : b ∈ C
    · rw [undropC_in hc]; exact e
    · rw [undropC_out hc]; exact ub.frzs b o xs (by rw [dropC_out hc]; exact e)
  · have hc := p.ne e (by intro _ _ z; cases z)
    rw [undropC_out hc]; exact ub.tbls b ps (by rw [dropC_out hc]; exact e)
  · have hc : a ∉ C := fun z => by
      obtain ⟨o, e⟩ := p a z
      have := cg a z o e
      rw [fl.2.1] at this; cases this
    rw [undropC_out hc]; exact na
/-- the end of a call made with more pinned things -/
theorem ce_unadd {Q Q' : VK} (n1 : ∀ c ∈ C, H c = none) (same : ∀ b, b ∉ C → H2 b = H b) (pin : ∀ c ∈ C, ∃ o, H2 c = some (PinO c o) ∧ s.heap.get? c = some o) (hq : ∀ v H', Pins C H' → Q' v H' → Q v (dropC C H')) (c : CE outer P w H2 s Q' v s') : CE outer P w H s Q v s' := by
  obtain ⟨x, H', os, bare, un, hok', r, q⟩ := c
  have pp : Pins C H' := un_pins (fun c hc => let ⟨o, e, _⟩ := pin c hc; ⟨o, e⟩) un
  exact ⟨x, dropC C H', os, bare, un_unadd n1 same pin hok' un, HOk.drop pp hok', r, hq x H' pp q⟩
theorem cx_unadd {E E' : XK} (n1 : ∀ c ∈ C, H c = none) (same : ∀ b, b ∉ C → H2 b = H b) (pin : ∀ c ∈ C, ∃ o, H2 c = some (PinO c o) ∧ s.heap.get? c = some o) (hq : ∀ cls d H', Pins C H' → E' cls d H' → E cls d (dropC C H')) (c : L2.CX P w outer H2 s E' v s') : L2.CX P w outer H s E v s' := by
  obtain ⟨a, B, H', cls, d, rfl, fl, hok', ub, na, os, bare, q⟩ := c
  have pp : Pins C H' := fun c hc => by
    obtain ⟨o, e1, _⟩ := pin c hc
    exact ⟨o, ub.frzs c o _ e1⟩
  have nc : ∀ b u, H b = some u → b ∉ C := fun b u e z => by rw [n1 b z] at e; cases e
  refine ⟨a, B, dropC C H', cls, d, rfl, fl, HOk.drop pp hok', ⟨fun b o e n hb => ?_, fun b o e hb => ub.slot b o e hb, fun b o e n => ?_, ub.there, fun b xs e => ?_, fun b o xs e => ?_, fun b ps e => ?_⟩, ?_, os, bare, hq cls d H' pp q⟩
  · by_cases hc : b ∈ C
    · obtain ⟨o', e1, e2⟩ := pin b hc
      rw [e] at e2; cases e2
      exact (hok' b _ (ub.frzs b o _ e1)).1
    · exact ub.keep b o e (by rw [same b hc]; exact n) hb
  · by_cases hc : b ∈ C
    · exact dropC_in hc
    · rw [dropC_out hc]; exact ub.free b o e (by rw [same b hc]; exact n)
  · rw [dropC_out (nc b _ e)]; exact ub.tups b xs (by rw [same b (nc b _ e)]; exact e)
  · rw [dropC_out (nc b _ e)]; exact ub.frzs b o xs (by rw [same b (nc b _ e)]; exact e)
  · rw [dropC_out (nc b _ e)]; exact ub.tbls b ps (by rw [same b (nc b _ e)]; exact e)
  · by_cases hc : a ∈ C
    · exact dropC_in hc
    · rw [dropC_out hc]; exact na
end
end RL
end
section
set_option maxRecDepth 100000
set_option maxHeartbeats 2000000
/-! Lambdas (2): what a lambda's body is worth, called with its captured values. -/
namespace RL
open PySem PySem.Spec L2
open PyProof.Rows hiding St
variable [Lams]
open Lams
/-- a lambda's defaults in a state -/
noncomputable def DvAt (s : Shared) (ds : List Int) (dV : Value) (its : List Value) : Prop := Vals (ds.map V.int) its ∧ ((ds = [] ∧ dV = .none) ∨ ∃ t o n, dV = .ref t ∧ ds ≠ [] ∧ s.heap.get? t = some o ∧ o.data = .seq its.toArray n)
/-- its parameters take the defaults -/
noncomputable def LamB (L : Lm) (pn : List Str) : Prop := ∀ (s : Shared) (cl : List (Str × Addr)) (dV doc pm cv ctv : Value) (its : List Value), DvAt s L.ds dV its → BindsTo s (PySem.W.kdv_fn "<lambda>" L.q L.ps (.expr L.b) L.sc cl dV doc pm cv ctv) ⟨[], []⟩ (pn.zip its)
noncomputable abbrev lamE (L : Lm) (n : Nat) (f c' : Addr) (clo : List (Str × Addr)) : Env := PySem.W.envX L.q L.sc n f (.ref c') clo
/-- where its body runs -/
noncomputable def cloCx (P : Program) (w : World) (K : PySem.W.Frag) (mg : Str → Option Value) (base : Heap) (N : List Str) (L : Lm) (f c' : Addr) (clo : List (Str × Addr)) (A : Around) (outer : List Env) (s : Shared) (H : Hp) (E : XK) : Cx where
  prog := P
  w := w
  K := K
  mg := mg
  base := base
  A := A.deeper (lamE L s.heap.objs.size f c' clo)
  N := N
  s_0 := s
  H_0 := H
  env := lamE L s.heap.objs.size f c' clo
  outer := outer
  stack := lamE L s.heap.objs.size f c' clo :: outer
  ex := []
  fn := fun _ => false
  calm := true
  pn := []
  xe := fun e s' => wpAny (model P w) (A.deeper (lamE L s.heap.objs.size f c' clo)) (leaving (lamE L s.heap.objs.size f c' clo) e) (fun _ s'' => L2.CX P w outer H s E e s'') (fun e' s'' => L2.CX P w outer H s E e' s'') s'
/-- captured cells hold these values -/
structure Caps (h : Heap) (L : Lm) (clo : List (Str × Addr)) (vs : List V) : Prop where
  len : vs.length = (frees L.sc).length
  at_ : ∀ (k : Nat) (y : Str), (frees L.sc)[k]? = some y → ∃ c v u, clo.lookup y = some c ∧ vs[k]? = some v ∧ h.IsCell c (some u) ∧ RelV v u
  key : ∀ y c, clo.lookup y = some c → y ∈ frees L.sc
  inj : ∀ x y c, clo.lookup x = some c → clo.lookup y = some c → x = y
structure CloOk (P : Program) (w : World) (K : PySem.W.Frag) (mg : Str → Option Value) (base : Heap) (k : Nat) (L : Lm) (g : Fn) : Prop where
  run : ∀ (A : Around) (outer : List Env) (s : Shared) (H : Hp) (f c' : Addr) (clo : List (Str × Addr)) (dV doc pm ctv : Value) (its : List Value) (vs : List V) (Q : VK) (E : XK), Room k A → Env0 P w K mg base A outer s H →
    s.heap.get? f = some (PySem.W.kdv_obj "<lambda>" L.q L.ps (.expr L.b) L.sc clo dV doc pm c' ctv) → s.heap.CodeRec (.ref c') L.q → DvAt s L.ds dV its → Caps s.heap L clo vs → (∀ y c, clo.lookup y = some c → H c = none) →
    spM K mg (frees L.sc).length g vs H Q E → codeAny (model P w) A (.call (.ref f) ⟨[], []⟩) (CR (L2.CX P w) outer P w H s Q E) s
/-- what is asked of its names -/
noncomputable def lamSc (L : Lm) (pn : List Str) : Bool :=
  decide (L.sc.kind = .function) && !L.sc.isCoroutine && !L.sc.isGenerator && (L.sc.names.all fun y => !decide (y.2 = .cell) && (!decide (y.2 = .free) || decide (L.sc.names.lookup y.1 = some .free))) && (pn.all fun y => decide (L.sc.names.lookup y = some .local)) && decide (pn.length = L.ds.length) && decide (pn.length ≤ 1) && decide ((frees L.sc).Nodup)
structure LamSc (L : Lm) (pn : List Str) : Prop where
  kind : L.sc.kind = .function
  co : L.sc.isCoroutine = false
  gen : L.sc.isGenerator = false
  nocell : ∀ y ∈ L.sc.names, y.2 ≠ .cell
  fr : ∀ y ∈ L.sc.names, y.2 = .free → L.sc.names.lookup y.1 = some .free
  par : ∀ y ∈ pn, L.sc.names.lookup y = some .local
  pl : pn.length = L.ds.length
  p1 : pn.length ≤ 1
  nd : (frees L.sc).Nodup
theorem lamSc_by {L : Lm} {pn : List Str} (h : lamSc L pn = true) : LamSc L pn := by
  unfold lamSc at h
  simp only [Bool.and_eq_true, Bool.or_eq_true, Bool.not_eq_true', decide_eq_true_eq, decide_eq_false_iff_not, List.all_eq_true] at h
  obtain ⟨⟨⟨⟨⟨⟨⟨h1, h2⟩, h3⟩, h4⟩, h5⟩, h6⟩, h7⟩, h8⟩ := h
  exact ⟨h1, h2, h3, fun y hy => (h4 y hy).1, fun y hy e => ((h4 y hy).2).elim (fun z => absurd e z) id, h5, h6, h7, h8⟩
theorem mem_frees {sc : Scope} {y : Str} : y ∈ frees sc ↔ (y, NameKind.free) ∈ sc.names := by
  unfold frees
  rw [List.mem_map]
  constructor
  · rintro ⟨p, hp, rfl⟩
    obtain ⟨h1, h2⟩ := List.mem_filter.mp hp
    have e : p.2 = .free := of_decide_eq_true h2
    rw [← e]; exact h1
  · intro h
    exact ⟨(y, .free), List.mem_filter.mpr ⟨h, by simp⟩, rfl⟩
section
variable {P : Program} {w : World} {K : PySem.W.Frag} {mg : Str → Option Value} {base : Heap} {L : Lm} {pn N : List Str}
noncomputable def startL (L : Lm) (ws : List W) : Env' := ws.map some ++ L.ds.map fun d => some (.int d)
noncomputable def startLV (L : Lm) (vs : List V) : L2.St := vs.map some ++ L.ds.map fun d => some (.int d)
theorem lam_start {A : Around} {outer : List Env} {s : Shared} {H : Hp} {E : XK} {f c' : Addr} {clo : List (Str × Addr)} {its : List Value} {vs : List V} {h₁ : Heap} {tk : Nat} (S : LamSc L pn) (e0 : Env0 P w K mg base A outer s H) (hd : A.handled = none)
    (cp : Caps s.heap L clo vs) (hn : ∀ y c, clo.lookup y = some c → H c = none) (rv : Vals (L.ds.map V.int) its) (hns : h₁.Ns s.heap.objs.size fun y => (pn.zip its).reverse.lookup y) (kp : ∀ b o, s.heap.get? b = some o → h₁.get? b = some o) :
    Inv (cloCx P w K mg base (frees L.sc ++ pn) L f c' clo A outer s H E) [] (startLV L vs) H { s with heap := h₁, toks := tk } := by
  have noA : ∀ b : Addr, b ∉ (cloCx P w K mg base (frees L.sc ++ pn) L f c' clo A outer s H E).ex := fun b z => absurd (show b ∈ ([] : List Addr) from z) (by simp)
  have has : ∀ y, y ∈ frees L.sc → ∃ c v u, clo.lookup y = some c ∧ s.heap.IsCell c (some u) ∧ RelV v u := fun y hy => by
    obtain ⟨k, hk⟩ := List.mem_iff_getElem?.mp hy
    obtain ⟨c, v, u, h1, h2, h3, h4⟩ := cp.at_ k y hk
    exact ⟨c, v, u, h1, h3, h4⟩
  have cellK : ∀ {c : Addr} {v : Option Value}, s.heap.IsCell c v → h₁.IsCell c v := fun {c v} ⟨o, ho, hd⟩ => ⟨o, kp _ _ ho, hd⟩
  have il : its.length = pn.length := by rw [S.pl, ← rv.length, List.length_map]
  refine ⟨⟨e0.mod, S.kind, rfl, rfl, Nat.le_refl _, fun y z c e1 e2 => cp.inj y z c e1 e2, fun y hy => ?_, fun y c z _ => ?_, fun _ => hd, Around.frames_deeper e0.frames, .inr ⟨rfl, rfl⟩, fun b z => absurd z (noA b), e0.bs, e0.bsz, fun b _ _ => noA b,
      fun b z => absurd z (noA b), e0.funs, e0.frf⟩,
    rfl, e0.bare, Un.kept kp, ⟨_, hns, fun i y v e1 e2 e3 => ?_⟩, fun y c e => ?_, e0.hok.fresh (Nat.le_refl _), fun y c e => hn y c e, fun q hq => absurd (show q ∈ ([] : List (Addr × Obj)) ++ [] from hq) (by simp), e0.hok.kept kp, ?_⟩
  · have hy : L.sc.names.lookup y = some .cell ∨ L.sc.names.lookup y = some .free := hy
    rcases hy with hy | hy
    · exact absurd rfl (S.nocell _ (PySem.mem_of_lookup hy))
    · obtain ⟨c, v, u, h1, _⟩ := has y (mem_frees.mpr (PySem.mem_of_lookup hy))
      exact ⟨c, h1⟩
  · have z : false = true := z
    cases z
  · have e1 : (frees L.sc ++ pn)[i]? = some y := e1
    by_cases hi : i < (frees L.sc).length
    · rw [List.getElem?_append_left hi] at e1
      obtain ⟨c, v', u, h1, h2, h3, h4⟩ := cp.at_ i y e1
      unfold startLV at e2
      rw [List.getElem?_append_left (by rw [List.length_map, cp.len]; exact hi), List.getElem?_map, h2] at e2
      cases e2
      refine ⟨u, h4, .inr ⟨.inr ?_, c, h1, cellK h3⟩⟩
      exact S.fr (y, .free) (mem_frees.mp (List.mem_of_getElem? e1)) rfl
    · rw [List.getElem?_append_right (by omega)] at e1
      unfold startLV at e2
      rw [List.getElem?_append_right (by rw [List.length_map, cp.len]; omega), List.length_map, cp.len, List.getElem?_map] at e2
      have hp1 := S.p1
      have hj : i - (frees L.sc).length < pn.length := (List.getElem?_eq_some_iff.mp e1).1
      have hj0 : i - (frees L.sc).length = 0 := by omega
      rw [hj0] at e1 e2
      match pn, L.ds, its, e1, e2, rv, hp1, S.par with
      | [p], d :: ds, it :: its, e1, e2, rv, hp1, par =>
        cases (Option.some.inj e1 : p = y)
        cases (Option.some.inj (Option.some.inj e2) : V.int d = v)
        cases rv with
        | cons r0 rr =>
          refine ⟨it, r0, .inl ⟨par y (by simp), ?_⟩⟩
          simp
      | [p], d :: ds, [], e1, e2, rv, hp1, par => cases rv
      | [p], [], _, e1, e2, rv, hp1, par => cases e2
      | [], _, _, e1, e2, rv, hp1, par => cases e1
      | _ :: _ :: _, _, _, _, _, _, hp1, _ => simp at hp1
  · obtain ⟨k, hk⟩ := List.mem_iff_getElem?.mp (cp.key y c e)
    obtain ⟨c2, v, u, h1, h2, h3, h4⟩ := cp.at_ k y hk
    have e : clo.lookup y = some c := e
    rw [e] at h1; cases h1
    exact ⟨some u, cellK h3⟩
  · show (startLV L vs).length = (frees L.sc ++ pn).length
    unfold startLV
    rw [List.length_append, List.length_append, List.length_map, List.length_map, cp.len, S.pl]
theorem env_startL {ρ : RT} {H : Hp} {ws : List W} {vs : List V} {E : XK} (r : RWs K mg ρ H ws vs) : REnv K mg ρ H ⟨E, fun _ => none⟩ (startL L ws) (startLV L vs) := by
  have hl := r.length
  refine ⟨(fun _ _ q => nomatch q), by simp [startL, startLV, hl], fun i u hi => ?_⟩
  unfold startL at hi
  unfold startLV
  by_cases h : i < ws.length
  · rw [List.getElem?_append_left (by simpa using h), List.getElem?_map] at hi
    cases e : ws[i]? with
    | none => rw [e] at hi; cases hi
    | some u' =>
      rw [e] at hi
      cases (Option.some.inj (Option.some.inj hi) : u' = u)
      obtain ⟨v, h1, h2⟩ := r.get e
      exact ⟨v, by rw [List.getElem?_append_left (by simpa [← hl] using h), List.getElem?_map, h1]; rfl, h2⟩
  · rw [List.getElem?_append_right (by simpa using h), List.getElem?_map] at hi
    rw [List.length_map, hl] at hi
    cases e : L.ds[i - vs.length]? with
    | none => rw [e] at hi; cases hi
    | some d =>
      rw [e] at hi
      cases (Option.some.inj (Option.some.inj hi) : W.int d = u)
      exact ⟨.int d, by rw [List.getElem?_append_right (by simp; omega), List.getElem?_map, List.length_map, e]; rfl, .int d⟩
/-- what a lambda's body is worth -/
noncomputable def runL (L : Lm) (m : SM W) : Fn := fun ws S => m (startL L ws) S
theorem clo_ok {k : Nat} {m : SM W} (hs : lamSc L pn = true) (hbd : LamB L pn)
    (hb : ∀ (A : Around) (outer : List Env) (s : Shared) (H : Hp) (E : EK) (f c' : Addr) (clo : List (Str × Addr)), Room k (A.deeper (lamE L s.heap.objs.size f c' clo)) → Takes (cloCx P w K mg base (frees L.sc ++ pn) L f c' clo A outer s H E) (fun c d _ H => E c d H) →
      PM (cloCx P w K mg base (frees L.sc ++ pn) L f c' clo A outer s H E) E L.b m) : CloOk P w K mg base (k + 1) L (runL L m) := by
  have S := lamSc_by hs
  refine ⟨fun A outer s H f c' clo dV doc pm ctv its vs Q E hr e0 ho hcd dv cp hn hsp => ?_⟩
  have KX : K.In s.heap := e0.mod.kin.keeps fun b o e => (e0.bs b o e).1
  have lim : s.heap.NoLimit := e0.mod.nolimit.keeps fun b o e => (e0.bs b o e).1
  obtain ⟨ρ, S0, ws, rep, rs, hl, o⟩ := hsp
  refine PySem.W.kla_callFunE hr.depth ho rfl S.co S.gen rfl hcd (hbd s clo dV doc pm _ ctv its dv _ _ _ _ ?_)
  refine wpAny_newFunctionEnv (fun y hy => S.nocell y hy) (fun y hy => S.par _ (List.of_mem_zip hy).1) (fun h₁ hns hsb => ⟨lim.fresh _ hsb, ?_⟩) S.kind
  show codeAny _ _ (.expr L.b (lamE L s.heap.objs.size f c' clo)) _ _
  have kp : ∀ b o, s.heap.get? b = some o → h₁.get? b = some o := fun b o e => hsb.extBut b o (Nat.ne_of_lt (Heap.lt_size e)) (Heap.get?_push_of_some _ e)
  have J := lam_start (E := E) (f := f) (c' := c') (tk := s.toks + (pn.zip its).length) S e0 hr.hd cp hn dv.1 hns kp
  have hb' := hb A outer s H ⟨E, fun _ => none⟩ f c' clo (hr.deeper _) (takes_of rfl rfl rfl rfl)
  refine PySem.W.kla_codeExpr (wpAny_mono (hb'.run [] _ (startLV L vs) H Q J ⟨ρ, startL L ws, S0, rep, env_startL rs, o⟩) (fun v s' hq => ?_) fun e s' hq => hq)
  obtain ⟨w', H', J', rv, q⟩ := hq
  exact ⟨w', H', J'.os, J'.bare, J'.base, J'.hok, rv, q⟩
theorem clo_bad {k : Nat} : CloOk P w K mg base k L (fun _ _ => .bad) := ⟨fun _ _ _ _ _ _ _ _ _ _ _ _ _ _ _ _ _ _ _ _ _ _ ⟨_, _, _, _, _, _, o⟩ => o.elim⟩
theorem CloOk.mono {j k : Nat} {g : Fn} (F : CloOk P w K mg base j L g) (h : j ≤ k) : CloOk P w K mg base k L g :=
  ⟨fun A outer s H f c' clo dV doc pm ctv its vs Q E hr => F.run A outer s H f c' clo dV doc pm ctv its vs Q E (hr.mono h)⟩
end
/-! ### x(), x a lambda with its captured values -/
/-- all lambdas of the text -/
noncomputable abbrev Clos (P : Program) (w : World) (K : PySem.W.Frag) (mg : Str → Option Value) (base : Heap) (k : Nat) (F : Nat → Fn) : Prop := ∀ j, CloOk P w K mg base k (at_ j) (F j)
noncomputable def mAct (F : Nat → Fn) (mf : SM W) : SM W := fun s S => (mf s S).bind fun w S1 => match w with
  | .clo j ws => if noClos ws = true ∧ noCloS S1 = true then F j ws S1 else .bad
  | _ => .bad
section
variable {X : Cx} {E : EK} {k : Nat} {F : Nat → Fn} {mf : SM W} {x : Str} {p1 p2 : Pos}
theorem isTup_at {h : Heap} {a : Addr} {its : List Value} (p : IsTup h a its.toArray) : ∃ o n, h.get? a = some o ∧ o.data = .seq its.toArray n := by
  obtain ⟨o, h1, h2, n, h3⟩ := p
  exact ⟨o, n, h1, h3⟩
theorem pm_act (C : Clos X.prog X.w X.K X.mg X.base k F) (hr : Room k X.A) (tk : Takes X (fun c d _ H => E c d H)) (hf : PM X E (.Name x p1) mf) : PM X E (.Call (.Name x p1) [] [] p2) (mAct F mf) := by
  refine ⟨fun pins s σ H Q I h => ?_⟩
  have h := tX.bind h (Z := fun v H1 => ∃ ρ1 w S1, RepS X.K X.mg ρ1 H1 S1 ∧ RW X.K X.mg ρ1 H1 w v ∧ Out X.K X.mg (RW X.K X.mg) E ρ1 H1 (match w with
    | .clo j ws => if noClos ws = true ∧ noCloS S1 = true then F j ws S1 else .bad
    | _ => .bad) Q) fun ρ1 H1 w v s1 S1 rep env r o => ⟨ρ1, w, S1, rep, r, o⟩
  refine wpAny_Call_Name_kw (thn (hf.run pins s σ H _ I h) fun u s1 ⟨v, H1, I1, r1, ρ1, w, S1, rep, r, o⟩ => ?_)
  cases w with
  | clo j ws =>
    cases r with
    | @clo _ f c' clo dV _ vs hf hc hd hl he hk hi rs =>
      obtain rfl : u = Value.ref f := r1
      have o : Out X.K X.mg (RW X.K X.mg) E ρ1 H1 (if noClos ws = true ∧ noCloS S1 = true then F j ws S1 else .bad) Q := o
      split at o
      · rename_i hz
        obtain ⟨⟨doc, pm, ctv, of1⟩, _, _⟩ := I1.hok f _ hf.1
        refine PySem.W.callWith_F0 ⟨_, _, _, _, of1⟩ ?_
        obtain ⟨⟨oc, vs', t, hoc, hdc, hvc⟩, _, _⟩ := I1.hok c' _ hc.1
        let L := at_ j
        let Cs : List Addr := (frees L.sc).filterMap fun y => clo.lookup y
        have memC : ∀ {c : Addr}, c ∈ Cs ↔ ∃ y, clo.lookup y = some c := fun {c} => by
          constructor
          · intro m
            obtain ⟨y, _, e⟩ := List.mem_filterMap.mp m
            exact ⟨y, e⟩
          · rintro ⟨y, e⟩
            exact List.mem_filterMap.mpr ⟨y, hk y c e, e⟩
        have pins1 : Pins Cs H1 := fun c m => by
          obtain ⟨y, e⟩ := memC.mp m
          obtain ⟨i, hi'⟩ := List.mem_iff_getElem?.mp (hk y c e)
          obtain ⟨c2, v, ob, u, h1, h2, h3, h4⟩ := he i y hi'
          rw [e] at h1; cases h1
          exact ⟨ob, h3.1⟩
        have cp : Caps s1.heap L clo vs := ⟨hl, fun i y hi' => by
          obtain ⟨c2, v, ob, u, h1, h2, h3, h4, h5⟩ := he i y hi'
          exact ⟨c2, v, u, h1, h2, ⟨ob, (I1.hok c2 _ h3.1).1, h4⟩, h5⟩, hk, hi⟩
        have nf : ∀ c ∈ Cs, c ∉ frs X.stack := fun c m z => by
          obtain ⟨ob, e⟩ := pins1 c m
          rw [I1.stkFree c z] at e; cases e
        have e0 : Env0 X.prog X.w X.K X.mg X.base X.A X.stack s1 (dropC Cs H1) := by
          have e := I1.env0
          refine ⟨e.frames, e.mod, fun b ob hb => ⟨(e.bs b ob hb).1, ?_⟩, e.bsz, e.funs, fun b hb => ?_, HOk.drop pins1 e.hok, e.bare⟩
          · unfold dropC; split <;> first | rfl | exact (e.bs b ob hb).2
          · unfold dropC; split <;> first | rfl | exact e.frf b hb
        obtain ⟨its, dv⟩ : ∃ its, DvAt s1 L.ds dV its := by
          rcases hd with ⟨h1, h2⟩ | ⟨t, h1, h2, h3⟩
          · exact ⟨[], by rw [show L.ds = [] from h1]; exact .nil, .inl ⟨h1, h2⟩⟩
          · obtain ⟨_, its, rv, pt⟩ := I1.hok t _ h3.1
            obtain ⟨ob, n, e1, e2⟩ := isTup_at pt
            exact ⟨its, rv, .inr ⟨t, ob, n, h1, h2, e1, e2⟩⟩
        have hsp : spM X.K X.mg (frees L.sc).length (F j) vs (dropC Cs H1) (fun v H' => (∀ c ∈ Cs, H' c = none) → Q v (undropC Cs H1 H')) (fun cls d H' => (∀ c ∈ Cs, H' c = none) → E cls d (undropC Cs H1 H')) := by
          refine ⟨ρ1, S1, ws, rep.drop pins1 hz.2, RWs.dropK pins1 hz.1 rs, by rw [rs.length]; exact hl, ?_⟩
          cases e : F j ws S1 with
          | ok w2 S2 =>
            rw [e] at o
            exact fun ρ2 H2 v2 e2 rep2 r2 hC => o ρ2 _ v2 (drop_through pins1 rep hC rep2 e2) (undrop_rep hC rep2) (r2.ext (undrop_ext hC rep2))
          | exc cn ns es S2 =>
            rw [e] at o
            intro ρ2 H2 C d xs e2 rep2 hcl hx hlen r2 hC
            exact o ρ2 _ C d xs (drop_through pins1 rep hC rep2 e2) (undrop_rep hC rep2) hcl (hx.ext (undrop_ext hC rep2)) hlen (r2.ext (undrop_ext hC rep2))
          | bad => rw [e] at o; exact o.elim
        have rc := (C j).run X.A X.stack s1 (dropC Cs H1) f c' clo dV doc pm ctv its vs _ _ hr e0 of1 ⟨c', oc, vs', t, rfl, hoc, hdc, hvc⟩ dv cp (fun y c e => dropC_in (memC.mpr ⟨y, e⟩)) hsp
        refine wpAny_call (codeAny_mono rc fun r s2 hq => ?_)
        cases r with
        | error e => exact passM tk pins σ H1 s1 e s2 I1 (cx_undrop pins1 I1.hok nf (fun cls d H' hC q => q hC) hq)
        | ok fl =>
          cases fl with
          | ret u => exact I1.after (ce_undrop pins1 I1.hok nf (fun v H' hC q => q hC) hq)
          | next => exact False.elim hq
          | brk => exact False.elim hq
          | cont => exact False.elim hq
      · exact o.elim
  | _ => exact o.elim
end
end RL
end
section
set_option maxRecDepth 100000
set_option maxHeartbeats 2000000
/-! Lambdas (3): making one; a call that takes them along. -/
namespace RL
open PySem PySem.Spec L2
open PyProof.Rows hiding St
variable [Lams]
open Lams
/-- X runs the def x, whose lambdas these are -/
noncomputable def MkL (X : Cx) (x : Str) : Prop := ∀ P, TabOf X.K X.mg x P → ∃ c, X.env.code = .ref c ∧ LamX.TabB X.base X.mg c P
/-- .. the lambda j -/
noncomputable def mLam (l : Nat) (x : Str) (j : Nat) : SM W := fun s S => match S[l]? with
  | some (.tab y) => if y = x then .ok (.lam j) S else .bad
  | _ => .bad
theorem set_same {S : Store} {l : Nat} {o : Ob} (h : S[l]? = some o) : S.set l o = S := by
  apply List.ext_getElem?
  intro i
  by_cases hi : l = i
  · subst hi
    rw [List.getElem?_set_self (List.getElem?_eq_some_iff.mp h).1, h]
  · rw [List.getElem?_set_ne hi]
theorem upd_comm {H : Hp} {a b : Addr} {o u : HO} (n : a ≠ b) : upd (upd H a o) b u = upd (upd H b u) a o := by
  funext c
  unfold upd
  by_cases h1 : c = b
  · by_cases h2 : c = a
    · exact absurd (h2.symm.trans h1) n
    · rw [if_pos h1, if_neg h2, if_pos h1]
  · by_cases h2 : c = a
    · rw [if_neg h1, if_pos h2, if_pos h2]
    · rw [if_neg h1, if_neg h2, if_neg h2, if_neg h1]
section
variable {X : Cx} {E : EK} {pins : List (Addr × Obj)} {σ : L2.St} {H : Hp} {s : Shared} {Q : VK} {ρ : RT} {S : Store} {l j : Nat} {x : Str} {P c : Addr} {dV : Value} {ds : List Int} {pos : Pos} {params : Arguments} {body : Expr} {scope : Scope}
/-- the new function object is one of ours -/
theorem lam_rw {f c' : Addr} (ok : X.Ok) (hce : ∀ y c, X.env.cells.lookup y = some c → ρ.ce y = some c) (hL : at_ j = ⟨X.env.qual ++ "<lambda>", params, body, scope, ds⟩) (hfree : ∀ y ∈ scope.names, y.2 = .free → ∃ c, X.env.cells.lookup y.1 = some c)
    (hf : Fx ρ H f (LamO f (at_ j) (cloFrom X.env.cells scope.names []) dV c')) (hc : Fx ρ H c' (LamX.CodeO c' (X.env.qual ++ "<lambda>"))) (hd : DvOk ρ H ds dV) : RW X.K X.mg ρ H (.lam j) (.ref f) := by
  have cm : ∀ {y c}, (cloFrom X.env.cells scope.names []).lookup y = some c → X.env.cells.lookup y = some c ∧ (y, NameKind.free) ∈ scope.names := fun {y c} e => by
    rcases cloFrom_mem (PySem.mem_of_lookup e) with hm | ⟨h1, h2⟩
    · cases hm
    · obtain ⟨c1, hc⟩ := hfree _ h1 rfl
      have hc : X.env.cells.lookup y = some c1 := hc
      have e2 : c = c1 := by
        rw [h2, hc] <;> rfl
      rw [e2]
      exact ⟨hc, h1⟩
  refine .lam hf (by rw [hL]; exact hc) (by rw [hL]; exact hd) (fun y m => ?_) fun y c e => ?_
  · rw [hL] at m
    have m : (y, NameKind.free) ∈ scope.names := mem_frees.mp m
    obtain ⟨c1, h1⟩ := mem_lookup (cloFrom_has (cells := X.env.cells) (acc := []) m)
    exact ⟨c1, h1, hce y c1 (cm h1).1⟩
  · rw [hL]
    exact mem_frees.mpr (cm e).2
theorem lam_tail (I : Inv X pins σ H s) (rep : RepS X.K X.mg ρ H S) (hce : ∀ y c, X.env.cells.lookup y = some c → ρ.ce y = some c) (TB : LamX.TabB X.base X.mg c P) (hcode : X.env.code = .ref c)
    (hL : at_ j = ⟨X.env.qual ++ "<lambda>", params, body, scope, ds⟩) (hq : X.env.qual ++ "<lambda>" = x ++ ".<locals>." ++ "<lambda>") (hfree : ∀ y ∈ scope.names, y.2 = .free → ∃ c, X.env.cells.lookup y.1 = some c) (hl : ρ.r[l]? = some P) (hS : S[l]? = some (.tab x))
    (hd : DvOk ρ H ds dV) (o : Out X.K X.mg (RW X.K X.mg) E ρ H (.ok (.lam j) S) Q) :
    wpAny (model X.prog X.w) X.A (makeTail "<lambda>" (X.env.qual ++ "<lambda>") params (.expr body) scope X.env dV .none none pos pos.line) (EP X pins σ Q) X.xe s := by
  obtain ⟨P', hl', ro⟩ := rep.ob l _ hS
  rw [hl] at hl'; cases hl'
  cases ro with
  | @tab _ ps ht hP hk hco =>
    have bP : s.heap.BuiltinsAt X.mg P := TB.bm.keeps I.bk
    have hP' : s.heap.get? P = some { cls := .none, data := .fields ps } := I.hok P _ hP
    have mP : P ∈ ρ.r := List.mem_of_getElem? hl
    cases hcd : codeAmong pos ps.toList with
    | none =>
      refine PySem.W.kdv_makeTail (mg := X.mg) (c := c) (P := P) (ps := ps) (closure_ok hfree) I.ok.glob (I.mod.glob.keeps I.bk) hcode (TB.code.keeps I.bk) hP' hk hcd TB.gP bP fun c' ctv doc h' tk hx hge hlt hrec htb => ?_
      obtain ⟨c2, oc, vs, t, e2, hoc, hdd, hv⟩ := hrec
      cases e2
      have nC : H c' = none := I.hok.fresh hge
      have nPc : P ≠ c' := ne_of_none hP nC
      let q := X.env.qual ++ "<lambda>"
      let ps' := ps ++ #[rawInt pos.line, rawInt pos.col, .ref c']
      have I1 := LamX.inv_table (q := q) (t' := tk) (more := #[rawInt pos.line, rawInt pos.col, .ref c']) (h' := h') I hP (fun b ob hb e => hx b ob hb e) htb hge ⟨oc, vs, t, hoc, hdd, hv⟩
      rw [upd_comm nPc] at I1
      let H1 := upd (upd H c' (LamX.CodeO c' q)) P (.tbl ps')
      have nf : H1 h'.objs.size = none := I1.hok.fresh (Nat.le_refl _)
      let fo := PySem.W.kdv_obj "<lambda>" q params (.expr body) scope (cloFrom X.env.cells scope.names []) dV doc ((X.mg "__name__").getD .none) c' ctv
      have I2 := I1.laid (a := h'.objs.size) (o := LamO h'.objs.size (at_ j) (cloFrom X.env.cells scope.names []) dV c') (h' := h'.push fo) (t' := tk) (fun b u e => Heap.get?_push_of_some _ e) (Nat.le_refl _) (by
        refine ⟨⟨doc, (X.mg "__name__").getD .none, ctv, ?_⟩, ⟨fo, Heap.get?_push_size _ rfl⟩, fun h1 h2 ⟨d, p, ct, e⟩ k => ⟨d, p, ct, k _ e⟩⟩
        rw [hL]
        exact Heap.get?_push_size _ rfl)
      -- the store
      obtain ⟨e1, rep1⟩ := rep.tree nC (LamX.CodeO c' q)
      have cfx : Fx ρ H1 c' (LamX.CodeO c' q) := ⟨by show upd _ _ _ c' = _; rw [upd_ne (Ne.symm nPc)]; exact upd_same, rep.fresh nC⟩
      have hro : RO X.K X.mg ρ H1 P (.tab x) := by
        refine .tab (ps := ps') ht upd_same ?_ fun p' cv hcv => ?_
        · have eL : ps'.toList = ps.toList ++ [rawInt pos.line, rawInt pos.col, .ref c'] := by simp [ps']
          rw [eL]
          exact PySem.TriplesOk_snoc _ _ _ _ hk
        · have eL : ps'.toList = ps.toList ++ [rawInt pos.line, rawInt pos.col, .ref c'] := by simp [ps']
          rw [eL] at hcv
          rcases LamX.among_app _ hk hcv with z | z
          · obtain ⟨c0, g1, g2⟩ := hco p' cv z
            have g3 := g2.ext e1
            exact ⟨c0, g1, ⟨by show upd _ _ _ c0 = _; rw [upd_ne (fun z : c0 = P => g3.2.1 (by rw [z]; exact mP))]; exact g3.1, g3.2⟩⟩
          · exact ⟨c', z, by rw [← hq]; exact cfx⟩
      obtain ⟨e2, rep2⟩ := rep1.wr hl hro
      rw [set_same hS] at rep2
      obtain ⟨e3, rep3⟩ := rep2.tree nf (LamO h'.objs.size (at_ j) (cloFrom X.env.cells scope.names []) dV c')
      have e123 := (e1.trans e2).trans e3
      refine ⟨.ref h'.objs.size, _, I2, rfl, o ρ _ (.ref h'.objs.size) e123 rep3 ?_⟩
      refine lam_rw I.ok hce hL hfree (fx_new rep2 nf _) (cfx.ext e3) (hd.ext e123)
    | some cv =>
      obtain ⟨c', e, hco'⟩ := hco pos cv hcd
      subst e
      refine PySem.W.kdv_makeTailHit (mg := X.mg) (c := c) (P := P) (ps := ps) (closure_ok hfree) I.ok.glob (I.mod.glob.keeps I.bk) hcode (TB.code.keeps I.bk) hP' hk hcd bP fun ctv doc h' tk hx hsz => ?_
      let fo := PySem.W.kdv_obj "<lambda>" (X.env.qual ++ "<lambda>") params (.expr body) scope (cloFrom X.env.cells scope.names []) dV doc ((X.mg "__name__").getD .none) c' ctv
      have nf : H h'.objs.size = none := I.hok.fresh hsz
      have I2 := I.laid (a := h'.objs.size) (o := LamO h'.objs.size (at_ j) (cloFrom X.env.cells scope.names []) dV c') (h' := h'.push fo) (t' := tk) (fun b u e => Heap.get?_push_of_some _ (hx b u e)) hsz (by
        refine ⟨⟨doc, (X.mg "__name__").getD .none, ctv, ?_⟩, ⟨fo, Heap.get?_push_size _ rfl⟩, fun h1 h2 ⟨d, p, ct, e⟩ k => ⟨d, p, ct, k _ e⟩⟩
        rw [hL]
        exact Heap.get?_push_size _ rfl)
      obtain ⟨e3, rep3⟩ := rep.tree nf (LamO h'.objs.size (at_ j) (cloFrom X.env.cells scope.names []) dV c')
      refine ⟨.ref h'.objs.size, _, I2, rfl, o ρ _ (.ref h'.objs.size) e3 rep3 ?_⟩
      refine lam_rw I.ok hce hL hfree (fx_new rep nf _) ?_ (hd.ext e3)
      rw [← hq] at hco'
      exact hco'.ext e3
variable {hX : MkL X x}
/-- what making a lambda needs -/
theorem lam_at (hM : MkL X x) (hE : ∀ y c, X.env.cells.lookup y = some c → E.ce y = some c) (h : tE X E (mLam l x j) σ H Q) : ∃ ρ S P c, RepS X.K X.mg ρ H S ∧ (∀ y c, X.env.cells.lookup y = some c → ρ.ce y = some c) ∧ LamX.TabB X.base X.mg c P ∧ X.env.code = .ref c ∧ ρ.r[l]? = some P ∧ S[l]? = some (.tab x) ∧ Out X.K X.mg (RW X.K X.mg) E ρ H (.ok (.lam j) S) Q := by
  obtain ⟨ρ, sW, S, rep, env, o⟩ := h
  unfold mLam at o
  cases e : S[l]? with
  | none => rw [e] at o; exact o.elim
  | some ob =>
    rw [e] at o
    cases ob with
    | tab y =>
      dsimp only at o
      split at o
      · rename_i hy
        subst hy
        obtain ⟨P, hl, ro⟩ := rep.ob l _ e
        cases ro with
        | tab ht hP hk hco =>
          obtain ⟨c, h1, h2⟩ := hM P ht
          exact ⟨ρ, S, P, c, rep, fun y c q => env.ce y c (hE y c q), h2, h1, hl, e, o⟩
      · exact o.elim
    | _ => exact o.elim
/-- lambda: body -/
theorem pm_lam0 (hM : MkL X x) (hE : ∀ y c, X.env.cells.lookup y = some c → E.ce y = some c) (l j : Nat) (hL : at_ j = ⟨X.env.qual ++ "<lambda>", params, body, scope, []⟩ := by rfl) (hq : X.env.qual ++ "<lambda>" = x ++ ".<locals>." ++ "<lambda>" := by rfl)
    (hfree : ∀ y ∈ scope.names, y.2 = .free → ∃ c, X.env.cells.lookup y.1 = some c) (hdef : defaultsOf params X.env = ([], []) := by rfl) : PM X E (.Lambda params body scope pos) (mLam l x j) := by
  refine ⟨fun pins s σ H Q I h => ?_⟩
  obtain ⟨ρ, S, P, c, rep, hce, TB, hcode, hl, hS, o⟩ := lam_at hM hE h
  refine PySem.W.kla_eval hdef ?_
  rw [makeFunction_eq]
  simp only [List.zip_nil_right, List.filterMap_nil, List.isEmpty_nil, if_true, pure_bind]
  exact lam_tail I rep hce TB hcode hL hq hfree hl hS (.inl ⟨rfl, rfl⟩) o
/-- lambda y=d: body -/
theorem pm_lam1 {d : Int} {kk} {dp : Pos} (hM : MkL X x) (hE : ∀ y c, X.env.cells.lookup y = some c → E.ce y = some c) (l j : Nat) (hL : at_ j = ⟨X.env.qual ++ "<lambda>", params, body, scope, [d]⟩ := by rfl) (hq : X.env.qual ++ "<lambda>" = x ++ ".<locals>." ++ "<lambda>" := by rfl)
    (hfree : ∀ y ∈ scope.names, y.2 = .free → ∃ c, X.env.cells.lookup y.1 = some c) (hdv : params.defaults = [.Constant (.int d) kk dp] := by rfl) (hk0 : params.kw_defaults = [] := by rfl) : PM X E (.Lambda params body scope pos) (mLam l x j) := by
  refine ⟨fun pins s σ H Q I h => ?_⟩
  obtain ⟨ρ, S, P, c, rep, hce, TB, hcode, hl, hS, o⟩ := lam_at hM hE h
  refine PySem.W.kdv_lam (by rw [hdv]; rfl) hk0 ?_
  rw [hdv]
  refine PySem.W.kdv_all1 (thn ((pe_int (X := X) (i := d) (j := kk) (pos := dp)).run pins s σ H (fun v H1 => v = .int d ∧ H1 = H) I ⟨rfl, rfl⟩) fun u s1 ⟨v, H1, I1, r1, ev, eH⟩ => PySem.W.kdv_all0 ?_)
  subst ev
  rw [eH] at I1
  rw [makeFunction_eq]
  simp only [List.zip_nil_right, List.filterMap_nil, List.isEmpty_nil, List.isEmpty_cons, if_true, pure_bind, Bool.false_eq_true, if_false]
  refine wpAny_bind (wpAny_newTextTuple ?_)
  have nt : H s1.heap.objs.size = none := I1.hok.fresh (Nat.le_refl _)
  have I2 := I1.laid (a := s1.heap.objs.size) (o := .tup [.int d]) (h' := s1.heap.push { cls := .type "tuple", data := .seq [u].toArray }) (t' := s1.toks) (fun b u e => Heap.get?_push_of_some _ e) (Nat.le_refl _)
    ⟨by rw [sizeLine_eq]; simp, [u], .cons r1 .nil, ⟨_, Heap.get?_push_size _ rfl, rfl, _, rfl⟩⟩
  obtain ⟨e1, rep1⟩ := rep.tree nt (.tup [.int d])
  exact lam_tail I2 rep1 hce TB hcode hL hq hfree hl hS (.inr ⟨_, rfl, by simp, fx_new rep nt _⟩) (Out.ext e1 o)
end
end RL
end
section
set_option maxRecDepth 100000
set_option maxHeartbeats 2000000
/-! Lambdas (4): a call that takes lambdas of this frame along. -/
namespace RL
open PySem PySem.Spec L2
open PyProof.Rows hiding St
variable [Lams]
open Lams
/-- the values in these slots -/
noncomputable def slotsW (s : Env') : List Nat → Option (List W)
  | [] => some []
  | i :: r => match s[i]?, slotsW s r with
    | some (some w), some ws => some (w :: ws)
    | _, _ => none
/-- ix: the lambdas of the frame, the slots that they take -/
noncomputable def closeW (ix : List (Nat × List Nat)) (s : Env') : W → Option W
  | .lam j => match ix.lookup j with
    | some is => (slotsW s is).map (.clo j)
    | none => none
  | w => some w
noncomputable def closeL (ix : List (Nat × List Nat)) (s : Env') : List W → Option (List W)
  | [] => some []
  | w :: ws => match closeW ix s w, closeL ix s ws with
    | some u, some us => some (u :: us)
    | _, _ => none
noncomputable def closeA (ix : List (Nat × List Nat)) (s : Env') : W → Option W
  | .lst ws => (closeL ix s ws).map .lst
  | w => closeW ix s w
noncomputable def closeAs (ix : List (Nat × List Nat)) (s : Env') : List W → Option (List W)
  | [] => some []
  | w :: ws => match closeA ix s w, closeAs ix s ws with
    | some u, some us => some (u :: us)
    | _, _ => none
noncomputable def ixB (N : List Str) (sc : Scope) (ix : List (Nat × List Nat)) : Bool :=
  ix.all fun p => decide (p.2.map (N[·]?) = (frees (at_ p.1).sc).map some) && (frees (at_ p.1).sc).all fun y => decide (sc.names.lookup y = some .cell) || decide (sc.names.lookup y = some .free)
/-- no lambda comes out -/
noncomputable def cutR : Res W → Res W
  | .ok w S => if noClo w = true ∧ noCloS S = true then .ok w S else .bad
  | .exc c ns ws S => if noClos ws = true ∧ noCloS S = true then .exc c ns ws S else .bad
  | .bad => .bad
theorem ix_mem : ∀ {ix : List (Nat × List Nat)} {j : Nat} {is : List Nat}, ix.lookup j = some is → (j, is) ∈ ix
  | (a, b) :: r, j, is, h => by
    rw [List.lookup_cons] at h
    by_cases e : (j == a) = true
    · rw [e] at h
      cases (Option.some.inj h : b = is)
      rw [beq_iff_eq.mp e]; exact List.mem_cons_self
    · have e' : (j == a) = false := by simpa using e
      rw [e'] at h
      exact List.mem_cons_of_mem _ (ix_mem h)
/-- the cells of X -/
noncomputable def cellsX (X : Cx) : List Addr := X.env.cells.filterMap fun p => X.env.cells.lookup p.1
theorem mem_cellsX {X : Cx} {c : Addr} : c ∈ cellsX X ↔ ∃ y, X.env.cells.lookup y = some c := by
  unfold cellsX
  constructor
  · intro m
    obtain ⟨p, _, e⟩ := List.mem_filterMap.mp m
    exact ⟨p.1, e⟩
  · rintro ⟨y, e⟩
    exact List.mem_filterMap.mpr ⟨(y, c), PySem.mem_of_lookup e, e⟩
/-- .. known just as they stand -/
noncomputable def withC (X : Cx) (h : Heap) (H : Hp) : Hp := fun b => if b ∈ cellsX X then (h.get? b).map fun o => PinO b o else H b
section
variable {X : Cx} {E : EK} {pins : List (Addr × Obj)} {σ : L2.St} {H : Hp} {s : Shared} {ρ : RT}
theorem withC_pin (I : Inv X pins σ H s) : ∀ c ∈ cellsX X, ∃ o, withC X s.heap H c = some (PinO c o) ∧ s.heap.get? c = some o := fun c m => by
  obtain ⟨y, e⟩ := mem_cellsX.mp m
  obtain ⟨v, o, ho, hd⟩ := I.cell y c e
  exact ⟨o, by unfold withC; rw [if_pos m, ho]; rfl, ho⟩
theorem withC_none (I : Inv X pins σ H s) : ∀ c ∈ cellsX X, H c = none := fun c m => let ⟨y, e⟩ := mem_cellsX.mp m; I.freeC y c e
theorem withC_out {h : Heap} : ∀ b, b ∉ cellsX X → withC X h H b = H b := fun b n => if_neg n
theorem withC_env0 (I : Inv X pins σ H s) (hfn : ∀ y, X.fn y = true) : Env0 X.prog X.w X.K X.mg X.base X.A X.stack s (withC X s.heap H) := by
  have e := I.env0
  have lo : ∀ c ∈ cellsX X, X.s_0.heap.objs.size ≤ c := fun c m => let ⟨y, q⟩ := mem_cellsX.mp m; I.ok.cab y c (hfn y) q
  refine ⟨e.frames, e.mod, fun b ob hb => ⟨(e.bs b ob hb).1, ?_⟩, e.bsz, e.funs, fun b hb => ?_, HOk.add (withC_none I) withC_out (withC_pin I) e.hok, e.bare⟩
  · rw [withC_out b fun z => ?_]
    · exact (e.bs b ob hb).2
    · exact absurd (Nat.lt_of_lt_of_le (Heap.lt_size hb) (Nat.le_trans I.ok.bsz (lo b z))) (Nat.lt_irrefl _)
  · rw [withC_out b fun z => ?_]
    · exact e.frf b hb
    · obtain ⟨y, q⟩ := mem_cellsX.mp z
      rcases List.mem_cons.mp (I.stkSub b hb) with k | k
      · exact I.cne y b q k
      · obtain ⟨_, o, ho, _⟩ := I.ok.funs.mem k
        exact absurd (Nat.lt_of_lt_of_le (Heap.lt_size ho) (lo b z)) (Nat.lt_irrefl _)
theorem slotsW_of {s' : Env'} (env : REnv X.K X.mg ρ H E s' σ) : ∀ {is : List Nat} {us : List W}, slotsW s' is = some us → ∃ vs : List V, RWs X.K X.mg ρ H us vs ∧ vs.length = is.length ∧ ∀ (k i : Nat), is[k]? = some i → ∃ v, vs[k]? = some v ∧ σ[i]? = some (some v)
  | [], us, h => by cases (Option.some.inj h : [] = us); exact ⟨[], .nil, rfl, fun k i e => by simp at e⟩
  | i :: r, us, h => by
    unfold slotsW at h
    cases e1 : s'[i]? with
    | none => rw [e1] at h; cases h
    | some q =>
      cases q with
      | none => rw [e1] at h; cases h
      | some w =>
        cases e2 : slotsW s' r with
        | none => rw [e1, e2] at h; cases h
        | some ws =>
          rw [e1, e2] at h
          cases (Option.some.inj h : w :: ws = us)
          obtain ⟨v, h1, h2⟩ := env.look i w e1
          obtain ⟨vs, g1, g2, g3⟩ := slotsW_of env e2
          refine ⟨v :: vs, .cons h2 g1, by rw [List.length_cons, List.length_cons, g2], fun k i' e => ?_⟩
          cases k with
          | zero =>
            cases (Option.some.inj (by simpa using e) : i = i')
            exact ⟨v, by simp, h1⟩
          | succ k =>
            obtain ⟨v', k1, k2⟩ := g3 k i' (by simpa using e)
            exact ⟨v', by simpa using k1, k2⟩
variable {ix : List (Nat × List Nat)} {s' : Env'} {S : Store}
theorem closeW_of (I : Inv X pins σ H s) (hE : ∀ y c, X.env.cells.lookup y = some c → E.ce y = some c) (hix : ixB X.N X.env.scope ix = true) (rep : RepS X.K X.mg ρ H S) (env : REnv X.K X.mg ρ H E s' σ) {w u : W} {v : V} (h : closeW ix s' w = some u) (r : RW X.K X.mg ρ H w v) : RW X.K X.mg ρ (withC X s.heap H) u v := by
  obtain ⟨ex, rep'⟩ := add_ext (withC_none I) (withC_out (h := s.heap)) rep
  have other : some w = some u → RW X.K X.mg ρ (withC X s.heap H) u v := fun e => by cases e; exact r.ext ex
  cases w with
  | lam j =>
    unfold closeW at h
    dsimp only at h
    cases e : ix.lookup j with
    | none => rw [e] at h; cases h
    | some is =>
      rw [e] at h
      dsimp only at h
      cases e2 : slotsW s' is with
      | none => rw [e2] at h; cases h
      | some us =>
        rw [e2] at h
        cases (Option.some.inj h : W.clo j us = u)
        have hb := List.all_eq_true.mp hix (j, is) (ix_mem e)
        simp only [Bool.and_eq_true, Bool.or_eq_true, decide_eq_true_eq, List.all_eq_true] at hb
        obtain ⟨hb1, hb2⟩ := hb
        obtain ⟨vs, g1, g2, g3⟩ := slotsW_of env e2
        cases r with
        | @lam _ f c' clo dV hf hc hd he hk =>
          have same : ∀ y c, clo.lookup y = some c → X.env.cells.lookup y = some c := fun y c q => by
            have my := hk y c q
            obtain ⟨c1, h1, h2⟩ := he y my
            rw [q] at h1; cases h1
            obtain ⟨c0, h0⟩ := I.ok.has y (hb2 y my)
            have h3 := env.ce y c0 (hE y c0 h0)
            rw [h2] at h3; cases h3
            exact h0
          have hlen : is.length = (frees (at_ j).sc).length := by
            have := congrArg List.length hb1
            simpa using this
          refine .clo (hf.ext ex) (hc.ext ex) (hd.ext ex) (vs := vs) (by rw [g2, hlen]) (fun k y hy => ?_) hk (fun y z c q1 q2 => I.ok.inj y z c (same y c q1) (same z c q2)) (g1.ext ex)
          have my : y ∈ frees (at_ j).sc := List.mem_of_getElem? hy
          obtain ⟨c, h1, _⟩ := he y my
          have hc0 := same y c h1
          have hk' : (is.map (X.N[·]?))[k]? = some (some y) := by rw [hb1, List.getElem?_map, hy]; rfl
          rw [List.getElem?_map] at hk'
          cases ei : is[k]? with
          | none => rw [ei] at hk'; cases hk'
          | some i =>
            rw [ei] at hk'
            have hN : X.N[i]? = some y := Option.some.inj hk'
            obtain ⟨v', k1, k2⟩ := g3 k i ei
            obtain ⟨m, hn, hl⟩ := I.loc
            have hkind := hb2 y my
            obtain ⟨u', r', q⟩ := hl i y v' hN k2 (hkind.elim (fun z => .inr (.inl z)) fun z => .inr (.inr z))
            have cell : s.heap.IsCell c (some u') := by
              rcases q with ⟨kk, _⟩ | ⟨_, c2, e', z⟩
              · have kk : X.env.scope.names.lookup y = some .local := kk
                rcases hkind with z | z <;> rw [z] at kk <;> cases kk
              · rw [hc0] at e'; cases e'
                exact z
            obtain ⟨o, ho, hd'⟩ := cell
            have mc : c ∈ cellsX X := mem_cellsX.mpr ⟨y, hc0⟩
            obtain ⟨o', p1, p2⟩ := withC_pin I c mc
            rw [ho] at p2; cases p2
            exact ⟨c, v', o, u', h1, k1, ⟨p1, rep.fresh (withC_none I c mc)⟩, hd', r'⟩
  | _ => exact other h
theorem closeL_of (I : Inv X pins σ H s) (hE : ∀ y c, X.env.cells.lookup y = some c → E.ce y = some c) (hix : ixB X.N X.env.scope ix = true) (rep : RepS X.K X.mg ρ H S) (env : REnv X.K X.mg ρ H E s' σ) : ∀ {ws us : List W} {vs : List V}, closeL ix s' ws = some us → RWs X.K X.mg ρ H ws vs → RWs X.K X.mg ρ (withC X s.heap H) us vs
  | [], us, _, h, .nil => by cases (Option.some.inj h : [] = us); exact .nil
  | w :: ws, us, _, h, .cons r rs => by
    unfold closeL at h
    cases e1 : closeW ix s' w with
    | none => rw [e1] at h; cases h
    | some u =>
      cases e2 : closeL ix s' ws with
      | none => rw [e1, e2] at h; cases h
      | some us' =>
        rw [e1, e2] at h
        cases (Option.some.inj h : u :: us' = us)
        exact .cons (closeW_of I hE hix rep env e1 r) (closeL_of I hE hix rep env e2 rs)
theorem closeA_of (I : Inv X pins σ H s) (hE : ∀ y c, X.env.cells.lookup y = some c → E.ce y = some c) (hix : ixB X.N X.env.scope ix = true) (rep : RepS X.K X.mg ρ H S) (env : REnv X.K X.mg ρ H E s' σ) {w u : W} {v : V} (h : closeA ix s' w = some u) (r : RW X.K X.mg ρ H w v) : RW X.K X.mg ρ (withC X s.heap H) u v := by
  have other : closeW ix s' w = some u → RW X.K X.mg ρ (withC X s.heap H) u v := fun e => closeW_of I hE hix rep env e r
  cases w with
  | lst ws =>
    unfold closeA at h
    dsimp only at h
    cases e : closeL ix s' ws with
    | none => rw [e] at h; cases h
    | some us =>
      rw [e] at h
      cases (Option.some.inj h : W.lst us = u)
      cases r with
      | lst hf rs =>
        obtain ⟨ex, _⟩ := add_ext (withC_none I) (withC_out (h := s.heap)) rep
        exact .lst (hf.ext ex) (closeL_of I hE hix rep env e rs)
  | _ => exact other h
theorem closeAs_of (I : Inv X pins σ H s) (hE : ∀ y c, X.env.cells.lookup y = some c → E.ce y = some c) (hix : ixB X.N X.env.scope ix = true) (rep : RepS X.K X.mg ρ H S) (env : REnv X.K X.mg ρ H E s' σ) : ∀ {ws us : List W} {vs : List V}, closeAs ix s' ws = some us → RWs X.K X.mg ρ H ws vs → RWs X.K X.mg ρ (withC X s.heap H) us vs
  | [], us, _, h, .nil => by cases (Option.some.inj h : [] = us); exact .nil
  | w :: ws, us, _, h, .cons r rs => by
    unfold closeAs at h
    cases e1 : closeA ix s' w with
    | none => rw [e1] at h; cases h
    | some u =>
      cases e2 : closeAs ix s' ws with
      | none => rw [e1, e2] at h; cases h
      | some us' =>
        rw [e1, e2] at h
        cases (Option.some.inj h : u :: us' = us)
        exact .cons (closeA_of I hE hix rep env e1 r) (closeAs_of I hE hix rep env e2 rs)
/-- what is wanted, asked of a run that knows the cells -/
theorem out_cut {H1 : Hp} {S1 : Store} {r : Res W} {Q : VK} (I : Inv X pins σ H1 s) (rep : RepS X.K X.mg ρ H1 S1) (o : Out X.K X.mg (RW X.K X.mg) E ρ H1 (cutR r) Q) :
    Out X.K X.mg (RW X.K X.mg) (fun cls d H' => Pins (cellsX X) H' → E cls d (dropC (cellsX X) H')) ρ (withC X s.heap H1) r (fun v H' => Pins (cellsX X) H' → Q v (dropC (cellsX X) H')) := by
  have th : ∀ c ∈ cellsX X, ∃ o, withC X s.heap H1 c = some (PinO c o) := fun c m => let ⟨o, e, _⟩ := withC_pin I c m; ⟨o, e⟩
  cases r with
  | ok w2 S2 =>
    have o : Out X.K X.mg (RW X.K X.mg) E ρ H1 (if noClo w2 = true ∧ noCloS S2 = true then Res.ok w2 S2 else .bad) Q := o
    split at o
    · rename_i hz
      exact fun ρ2 H2 v2 e2 rep2 r2 pp => o ρ2 _ v2 (add_through (withC_none I) withC_out th rep pp rep2 e2) (rep2.drop pp hz.2) (RW.dropK pp hz.1 r2)
    · exact o.elim
  | exc cn ns es S2 =>
    have o : Out X.K X.mg (RW X.K X.mg) E ρ H1 (if noClos es = true ∧ noCloS S2 = true then Res.exc cn ns es S2 else .bad) Q := o
    split at o
    · rename_i hz
      intro ρ2 H2 C d xs e2 rep2 hcl hx hlen r2 pp
      exact o ρ2 _ C d xs (add_through (withC_none I) withC_out th rep pp rep2 e2) (rep2.drop pp hz.2) hcl (hx.drop pp) hlen (RWs.dropK pp hz.1 r2)
    · exact o.elim
  | bad => exact o.elim
end
/-- f(.. lambdas of this frame ..) -/
noncomputable def mCallC (ix : List (Nat × List Nat)) (g : Fn) (mr : SM (List W)) : SM W := fun s S => (mr s S).bind fun ws S1 => match closeAs ix s ws with
  | some us => cutR (g us S1)
  | none => .bad
theorem closeAs_len {ix : List (Nat × List Nat)} {s : Env'} : ∀ {ws us : List W}, closeAs ix s ws = some us → us.length = ws.length
  | [], us, h => by cases (Option.some.inj h : [] = us); rfl
  | w :: ws, us, h => by
    unfold closeAs at h
    cases e1 : closeA ix s w with
    | none => rw [e1] at h; cases h
    | some u =>
      cases e2 : closeAs ix s ws with
      | none => rw [e1, e2] at h; cases h
      | some us' =>
        rw [e1, e2] at h
        cases (Option.some.inj h : u :: us' = us)
        rw [List.length_cons, List.length_cons, closeAs_len e2]
section
variable {X : Cx} {E : EK} {pos : Pos} {a : Expr} {es : List Expr} {mr : SM (List W)} {k k' n : Nat} {g : Fn} {x : Str} {p : Pos} {st : Stmt} {ps : List Str}
theorem pm_callC [hl : Len mr n] (ix : List (Nat × List Nat)) (F : FnE X.prog X.w X.K X.mg X.base k x st ps g) (hr : Room k' X.A) (hk : k ≤ k') (tk : Takes X (fun c d _ H => E c d H)) (hfn : ∀ y, X.fn y = true) (hE : ∀ y c, X.env.cells.lookup y = some c → E.ce y = some c) (hix : ixB X.N X.env.scope ix = true)
    (ha : PAM X E (a :: es) mr) (hn : n = ps.length := by rfl)
    (hg : Gl X x := by rfl) (hdb : (x == ("__debug__" : Str)) = false := by decide +kernel) (he : starEach (a :: es) X.env = (false, eval a X.env) :: starEach es X.env := by rfl) (hpl : (backTo pos (starEach es X.env)).any (·.1) = false := by rfl) : PM X E (.Call (.Name x p) (a :: es) [] pos) (mCallC ix g mr) := by
  obtain ⟨f, fd, h1, h2, h3, h4⟩ := F
  subst hn
  refine ⟨fun pins s σ H Q I h => ?_⟩
  obtain ⟨ρ, sW, S, rep, env, o⟩ := h
  refine wpAny_Call_Name_kw (ld_glob I hg h1 ?_ hdb)
  have hq : tA X E mr σ H (fun vs H1 => ∃ ρ1 ws S1, RepS X.K X.mg ρ1 H1 S1 ∧ REnv X.K X.mg ρ1 H1 E sW σ ∧ RWs X.K X.mg ρ1 H1 ws vs ∧ ws.length = ps.length ∧ Out X.K X.mg (RW X.K X.mg) E ρ1 H1 (match closeAs ix sW ws with
    | some us => cutR (g us S1)
    | none => .bad) Q) := by
    refine ⟨ρ, sW, S, rep, env, ?_⟩
    unfold mCallC at o
    cases e : mr sW S with
    | ok ws S1 =>
      rw [e] at o
      exact fun ρ1 H1 vs x rep1 r => ⟨ρ1, ws, S1, rep1, env.ext x, r, hl.len _ _ _ _ e, Out.ext x o⟩
    | exc c ns ws S1 => rw [e] at o; exact o
    | bad => rw [e] at o; exact o
  refine PySem.W.callWith_K (h₀ := X.base) I.ok.mod.kin h2.kp (thn (ha.run pos pins s σ H _ I hq) fun us s1 ⟨vs, H1, I1, r, ρ1, ws, S1, rep1, env1, rs, hlen, o1⟩ => ⟨I1.kIn, ?_⟩) he hpl
  cases e : closeAs ix sW ws with
  | none => rw [e] at o1; exact o1.elim
  | some ws' =>
    rw [e] at o1
    have rs' := closeAs_of I1 hE hix rep1 env1 e rs
    obtain ⟨ex, rep2⟩ := add_ext (withC_none I1) (withC_out (h := s1.heap)) rep1
    have hsp : spM X.K X.mg ps.length g vs (withC X s1.heap H1) (fun v H' => Pins (cellsX X) H' → Q v (dropC (cellsX X) H')) (fun cls d H' => Pins (cellsX X) H' → E cls d (dropC (cellsX X) H')) :=
      ⟨ρ1, S1, ws', rep2, rs', by rw [closeAs_len e]; exact hlen, out_cut I1 rep1 o1⟩
    have hb := h3 s1 us I1.kIn (by rw [List.append_nil, ← r.length, ← hlen]; exact rs.length.symm)
    rw [List.append_nil] at hb
    refine wpAny_call (codeAny_mono (h4.run X.A X.stack s1 (withC X s1.heap H1) ⟨us, []⟩ us vs _ _ (hr.mono hk) (withC_env0 I1 hfn) hb r hsp) fun rr s2 hq => ?_)
    cases rr with
    | error e => exact passM tk pins σ H1 s1 e s2 I1 (cx_unadd (withC_none I1) withC_out (withC_pin I1) (fun cls d H' pp q => q pp) hq)
    | ok fl =>
      cases fl with
      | ret u => exact I1.after (ce_unadd (withC_none I1) withC_out (withC_pin I1) (fun v H' pp q => q pp) hq)
      | next => exact False.elim hq
      | brk => exact False.elim hq
      | cont => exact False.elim hq
end
end RL
end
section
set_option maxRecDepth 100000
set_option maxHeartbeats 2000000
/-! Lambdas (5): defs that make lambdas; defs that return one. -/
namespace RL
open PySem PySem.Spec L2
open PyProof.Rows hiding St
variable [Lams]
open Lams
section
variable {K : PySem.W.Frag} {mg : Str → Option Value} {ρ : RT} {H : Hp} {S : Store} {ce : Str → Option Addr}
mutual
/-- other cells to speak of -/
theorem RW.ceq : ∀ {w : W} {v : V}, noClo w = true → RW K mg ρ H w v → RW K mg ⟨ρ.r, ρ.t, ce⟩ H w v
  | _, _, _, .non => .non
  | _, _, _, .bl b => .bl b
  | _, _, _, .int b => .int b
  | _, _, _, .str b => .str b
  | _, _, _, .ty b => .ty b
  | _, _, _, .gl h => .gl h
  | _, _, _, .ref h => .ref h
  | _, _, n, .tup h r => .tup h (RWs.ceq n r)
  | _, _, n, .lst h r => .lst h (RWs.ceq n r)
  | _, _, n, .flst h r => .flst h (RWs.ceq n r)
  | _, _, n, .dic h hl r => .dic h hl (RWs.ceq n r)
  | _, _, n, .ins hc h hl r => .ins hc h hl (RWs.ceq n r)
  | _, _, n, .exn hc h hd hl r => .exn hc h hd hl (RWs.ceq n r)
  | _, _, n, .lam _ _ _ _ _ => nomatch n
  | _, _, n, .clo _ _ _ _ _ _ _ _ => nomatch n
theorem RWs.ceq : ∀ {ws : List W} {vs : List V}, noClos ws = true → RWs K mg ρ H ws vs → RWs K mg ⟨ρ.r, ρ.t, ce⟩ H ws vs
  | _, _, _, .nil => .nil
  | w :: ws, _, n, .cons h t =>
    have n' : (noClo w && noClos ws) = true := n
    .cons (RW.ceq (Bool.and_eq_true _ _ ▸ n').1 h) (RWs.ceq (Bool.and_eq_true _ _ ▸ n').2 t)
end
theorem RO.ceq {a : Addr} {o : Ob} (n : noCloO o = true) (h : RO K mg ρ H a o) : RO K mg ⟨ρ.r, ρ.t, ce⟩ H a o := by
  cases h with
  | lst h r => exact .lst h (RWs.ceq n r)
  | dic h hl r => exact .dic h hl (RWs.ceq n r)
  | ins hc h hl r => exact .ins hc h hl (RWs.ceq n r)
  | tab ht h hk hco => exact .tab ht h hk hco
theorem RepS.ceq (n : noCloS S = true) (R : RepS K mg ρ H S) : RepS K mg ⟨ρ.r, ρ.t, ce⟩ H S :=
  ⟨R.len, R.nd, fun l o hl => let ⟨a, h1, h2⟩ := R.ob l o hl; ⟨a, h1, h2.ceq (noCloS_at n hl)⟩, R.tk, R.tp⟩
/-- there and back -/
theorem ext_ce {ρ2 : RT} {H2 : Hp} (e : Ext ⟨ρ.r, ρ.t, ce⟩ H ρ2 H2) : Ext ρ H ⟨ρ2.r, ρ2.t, ρ.ce⟩ H2 := ⟨e.pre, e.sub, e.newt, e.keep, e.new, e.still, rfl⟩
end
/-- the code object of the def x and its table, in the base -/
noncomputable def TabK (base : Heap) (K : PySem.W.Frag) (mg : Str → Option Value) (x : Str) : Prop := K.In base ∧ ∀ (f c : Addr) (oc : Value) (od : Option Addr) (fd : FuncData) (osl : Array (Option Value)) (P : Addr),
  mg x = some (.ref f) → K.lookup f = some ⟨oc, od, .func fd, osl⟩ → fd.code = .ref c → PySem.W.CodeHd base c P → LamX.TabB base mg c P
section
variable {P : Program} {w : World} {K : PySem.W.Frag} {mg : Str → Option Value} {base : Heap}
/-- F.okX, its code told -/
theorem okX2 {x qual : Str} {st : Stmt} {f : Addr} {fd : FuncData} {N ps : List Str} {k : Nat} {sp : Sp} (F : Fun K x qual st f fd) (S : FnScope N ps (defScope st)) (len : ∀ vs H Q E, sp vs H Q E → vs.length = ps.length)
    (hbody : ∀ (cdv : Value) (A : Around) (outer : List Env) (s : Shared) (H : Hp) (vs : List V) (Q : VK) (E : XK), fd.code = cdv → (∃ oc od osl, K.lookup f = some ⟨oc, od, .func fd, osl⟩) → Room k (A.deeper (envOfC qual (defScope st) s.heap.objs.size f cdv)) → sp vs H Q E →
      ∃ t, PSs (cxOf (L2.CX P w) P w K mg base N qual (defScope st) f cdv A outer s H E) (defBody st) t ∧ t { nx := fun _ H' => Q .non H', rt := Q } (L2.start N vs) H) : FnOk P w K mg base (L2.CX P w) (k + 1) f fd ps sp := by
  obtain ⟨oc, od, kV, doc, pm, an, cdv, ct, osl, rfl, lk, hcd⟩ := F.ex
  exact fn_of lk hcd S len fun A outer s H vs Q E hr hsp => hbody cdv A outer s H vs Q E rfl ⟨_, _, _, lk⟩ hr hsp
theorem mkL_of {X : Cx} {x : Str} {f : Addr} {fd : FuncData} {oc : Value} {od : Option Addr} {osl : Array (Option Value)} (T : TabK X.base X.K X.mg x) (hm : X.mg x = some (.ref f)) (lk : X.K.lookup f = some ⟨oc, od, .func fd, osl⟩) (hc : fd.code = X.env.code) : MkL X x := fun P ⟨f', c, oc', od', fd', osl', h1, h2, h3, h4⟩ => by
  rw [hm] at h1; cases h1
  rw [lk] at h2; cases h2
  exact ⟨c, hc ▸ h3, T.2 f c _ _ _ _ P hm lk h3 (h4 _ T.1)⟩
/-- a body that makes lambdas -/
noncomputable def runMk (n : Nat) (m : SS) : Fn := fun ws S => if noClos ws = true ∧ noCloS S = true then cutR (runB n m ws S) else .bad
theorem out_ceq {ρ : RT} {H : Hp} {E : EK} {ce : Str → Option Addr} {r : Res W} {Q : VK} (o : Out K mg (RW K mg) E ρ H (cutR r) Q) : Out K mg (RW K mg) E ⟨ρ.r, ρ.t, ce⟩ H r Q := by
  cases r with
  | ok w2 S2 =>
    have o : Out K mg (RW K mg) E ρ H (if noClo w2 = true ∧ noCloS S2 = true then Res.ok w2 S2 else .bad) Q := o
    split at o
    · rename_i hz
      exact fun ρ2 H2 v2 e2 rep2 r2 => o ⟨ρ2.r, ρ2.t, ρ.ce⟩ H2 v2 (ext_ce e2) (rep2.ceq hz.2) (RW.ceq hz.1 r2)
    · exact o.elim
  | exc cn ns es S2 =>
    have o : Out K mg (RW K mg) E ρ H (if noClos es = true ∧ noCloS S2 = true then Res.exc cn ns es S2 else .bad) Q := o
    split at o
    · rename_i hz
      exact fun ρ2 H2 C d xs e2 rep2 hcl hx hlen r2 => o ⟨ρ2.r, ρ2.t, ρ.ce⟩ H2 C d xs (ext_ce e2) (rep2.ceq hz.2) hcl hx hlen (RWs.ceq hz.1 r2)
    · exact o.elim
  | bad => exact o.elim
theorem fn_mk {x qual : Str} {st : Stmt} {f : Addr} {fd : FuncData} {N ps : List Str} {k : Nat} {m : SS} (F : Fun K x qual st f fd) (Sc : FnScope N ps (defScope st)) (hm : mg x = some (.ref f)) (T : TabK base K mg x)
    (hb : ∀ (cdv : Value) (A : Around) (outer : List Env) (s : Shared) (H : Hp) (E : EK), Room k (A.deeper (envOfC qual (defScope st) s.heap.objs.size f cdv)) → Takes (cxOf (L2.CX P w) P w K mg base N qual (defScope st) f cdv A outer s H E) (fun c d _ H => E c d H) →
      MkL (cxOf (L2.CX P w) P w K mg base N qual (defScope st) f cdv A outer s H E) x → (∀ y c, (envOfC qual (defScope st) s.heap.objs.size f cdv).cells.lookup y = some c → E.ce y = some c) → PSsM (cxOf (L2.CX P w) P w K mg base N qual (defScope st) f cdv A outer s H E) E (defBody st) m) :
    FnM P w K mg base (k + 1) f fd ps ps.length (runMk N.length m) := by
  refine okX2 F Sc (fun vs H Q E h => ?_) (fun cdv A outer s H vs Q E hcv hlk hr h => ?_)
  · obtain ⟨ρ, S, ws, rep, rs, hn, _⟩ := h
    rw [← rs.length]; exact hn
  · obtain ⟨oc, od, osl, lk⟩ := hlk
    refine ⟨_, hb cdv A outer s H ⟨E, fun y => (envOfC qual (defScope st) s.heap.objs.size f cdv).cells.lookup y⟩ hr (takes_of rfl rfl rfl rfl) (mkL_of T hm lk hcv) (fun _ _ q => q), ?_⟩
    obtain ⟨ρ, S, ws, rep, rs, hn, o⟩ := h
    unfold runMk at o
    split at o
    · rename_i hz
      have o := out_ceq (E := ⟨E, fun _ => none⟩) (ce := fun y => (envOfC qual (defScope st) s.heap.objs.size f cdv).cells.lookup y) o
      refine ⟨⟨ρ.r, ρ.t, fun y => (envOfC qual (defScope st) s.heap.objs.size f cdv).cells.lookup y⟩, startW N.length ws, S, rep.ceq hz.2, env_start (RWs.ceq hz.1 rs) (fun _ _ q => q), ?_⟩
      unfold runB at o
      show OutS K mg ⟨E, _⟩ _ H (m (startW N.length ws) S) _
      cases e : m (startW N.length ws) S with
      | ok p S1 =>
        obtain ⟨fl, s1⟩ := p
        rw [e] at o
        cases fl with
        | nx => exact fun ρ' H' σ' x rep' env' => o ρ' H' .non x rep' .non
        | rt u => exact o
        | bk => exact o.elim
        | ct => exact o.elim
      | exc c ns ws' S1 => rw [e] at o; exact o
      | bad => rw [e] at o; exact o
    · exact o.elim
end
section
variable {P : Program} {w : World} {K : PySem.W.Frag} {mg : Str → Option Value} {base : Heap}
theorem fn_mkE {x : Str} {st : Stmt} {N ps : List Str} {k : Nat} {m : SS} (T : FTx K mg x st ps) (Sc : FnScope N ps (defScope st)) (TK : TabK base K mg x)
    (hb : ∀ (f : Addr) (cdv : Value) (A : Around) (outer : List Env) (s : Shared) (H : Hp) (E : EK), Room k (A.deeper (envOfC x (defScope st) s.heap.objs.size f cdv)) → Takes (cxOf (L2.CX P w) P w K mg base N x (defScope st) f cdv A outer s H E) (fun c d _ H => E c d H) →
      MkL (cxOf (L2.CX P w) P w K mg base N x (defScope st) f cdv A outer s H E) x → (∀ y c, (envOfC x (defScope st) s.heap.objs.size f cdv).cells.lookup y = some c → E.ce y = some c) → PSsM (cxOf (L2.CX P w) P w K mg base N x (defScope st) f cdv A outer s H E) E (defBody st) m) :
    FnE P w K mg base (k + 1) x st ps (runMk N.length m) := by
  obtain ⟨f, fd, F, hm, hb'⟩ := T
  exact ⟨f, fd, hm, F, hb', fn_mk F Sc hm TK (hb f)⟩
end
end RL
namespace RL
open PySem PySem.Spec L2
open PyProof.Rows hiding St
variable [Lams]
open Lams
/-! ### for the printed texts -/
noncomputable def exprOf : Stmt → Expr
  | .Return (some e) _ => e
  | .Assign _ e _ => e
  | .AugAssign _ _ e _ => e
  | .Expr e _ => e
  | .If e _ _ _ => e
  | .While e _ _ _ => e
  | .For _ e _ _ _ => e
  | _ => default
noncomputable def kids : Expr → List Expr
  | .Call f as ks _ => f :: (as ++ ks.map (·.value))
  | .List es _ => es
  | .Tuple es _ _ => es
  | .BinOp a _ b _ => [a, b]
  | .BoolOp _ vs _ => vs
  | .Compare a _ cs _ => a :: cs
  | .UnaryOp _ a _ => [a]
  | .Subscript a b _ => [a, b]
  | .Attribute a _ _ => [a]
  | .IfExp a b c _ => [a, b, c]
  | .ListComp e gs _ _ => e :: gs.map (·.iter)
  | .Starred e _ => [e]
  | _ => []
noncomputable def stAt (l : List Stmt) (i : Nat) : Stmt := l.getD i (.Pass ⟨0, 0, 0, 0⟩)
noncomputable def kidAt (e : Expr) (i : Nat) : Expr := (kids e).getD i default
noncomputable def lamOf (q : Str) (ds : List Int) : Expr → Lm
  | .Lambda p b sc _ => ⟨q, p, b, sc, ds⟩
  | _ => default
/-- the names that the inner scope takes are the outer scope's -/
noncomputable def frB (sc inner : Scope) : Bool := inner.names.all fun y => !decide (y.2 = .free) || decide (sc.names.lookup y.1 = some .cell) || decide (sc.names.lookup y.1 = some .free)
theorem frB_of {sc inner : Scope} (h : frB sc inner = true) : ∀ y ∈ inner.names, y.2 = .free → sc.names.lookup y.1 = some .cell ∨ sc.names.lookup y.1 = some .free := fun y hy e => by
  have z := List.all_eq_true.mp h y hy
  simp only [Bool.or_eq_true, Bool.not_eq_true', decide_eq_true_eq, decide_eq_false_iff_not] at z
  rcases z with (z | z) | z
  · exact absurd e z
  · exact .inl z
  · exact .inr z
section
variable {X : Cx} {E : EK} {x : Str} {pos : Pos} {params : Arguments} {body : Expr} {scope : Scope}
theorem pm_of {e : Expr} {m : SM W} (h : X.Ok → PM X E e m) : PM X E e m := ⟨fun pins s σ H Q I q => (h I.ok).run pins s σ H Q I q⟩
theorem pm_lam0B (hM : MkL X x) (hE : ∀ y c, X.env.cells.lookup y = some c → E.ce y = some c) (l j : Nat) (hfr : frB X.env.scope scope = true) (hL : at_ j = ⟨X.env.qual ++ "<lambda>", params, body, scope, []⟩ := by rfl) (hq : X.env.qual ++ "<lambda>" = x ++ ".<locals>." ++ "<lambda>" := by rfl)
    (hdef : defaultsOf params X.env = ([], []) := by rfl) : PM X E (.Lambda params body scope pos) (mLam l x j) := pm_of fun ok => pm_lam0 hM hE l j hL hq (fun y m e => ok.has y.1 (frB_of hfr y m e)) hdef
theorem pm_lam1B {d : Int} {kk} {dp : Pos} (hM : MkL X x) (hE : ∀ y c, X.env.cells.lookup y = some c → E.ce y = some c) (l j : Nat) (hfr : frB X.env.scope scope = true) (hL : at_ j = ⟨X.env.qual ++ "<lambda>", params, body, scope, [d]⟩ := by rfl) (hq : X.env.qual ++ "<lambda>" = x ++ ".<locals>." ++ "<lambda>" := by rfl)
    (hdv : params.defaults = [.Constant (.int d) kk dp] := by rfl) (hk0 : params.kw_defaults = [] := by rfl) : PM X E (.Lambda params body scope pos) (mLam l x j) := pm_of fun ok => pm_lam1 hM hE l j hL hq (fun y m e => ok.has y.1 (frB_of hfr y m e)) hdv hk0
end
section
variable {P : Program} {w : World} {K : PySem.W.Frag} {mg : Str → Option Value} {base : Heap} {L : Lm} {pn N : List Str}
theorem clo_okN {k : Nat} {m : SM W} (hN : frees L.sc ++ pn = N) (hs : lamSc L pn = true) (hbd : LamB L pn)
    (hb : ∀ (A : Around) (outer : List Env) (s : Shared) (H : Hp) (E : EK) (f c' : Addr) (clo : List (Str × Addr)), Room k (A.deeper (lamE L s.heap.objs.size f c' clo)) → Takes (cloCx P w K mg base N L f c' clo A outer s H E) (fun c d _ H => E c d H) →
      PM (cloCx P w K mg base N L f c' clo A outer s H E) E L.b m) : CloOk P w K mg base (k + 1) L (runL L m) := by
  subst hN
  exact clo_ok hs hbd hb
theorem lamB0 (h0 : L.ds = []) (h : ∀ (cl : List (Str × Addr)) (doc pm cv ctv : Value), bindArgs (PySem.W.kdv_fn "<lambda>" L.q L.ps (.expr L.b) L.sc cl .none doc pm cv ctv) ⟨[], []⟩ = pure []) : LamB L [] := fun s cl dV doc pm cv ctv its dv => by
  obtain ⟨rv, h1⟩ := dv
  rw [h0] at rv h1
  cases rv
  rcases h1 with ⟨_, rfl⟩ | ⟨t, o, n, _, hne, _⟩
  · exact .of_eq (h cl doc pm cv ctv)
  · exact absurd rfl hne
theorem lamB1 {d : Int} {p : Str} (h1 : L.ds = [d]) (h : ∀ (cl : List (Str × Addr)) (t : Addr) (doc pm cv ctv : Value), ∃ k, bindArgs (PySem.W.kdv_fn "<lambda>" L.q L.ps (.expr L.b) L.sc cl (.ref t) doc pm cv ctv) ⟨[], []⟩ = (seqItems? (.ref t) >>= k) ∧ ∀ i : Value, k (some #[i]) = pure [(p, i)]) : LamB L [p] := fun s cl dV doc pm cv ctv its dv => by
  obtain ⟨rv, h2⟩ := dv
  rw [h1] at rv h2
  cases rv with
  | cons r rr =>
    cases rr
    rcases h2 with ⟨z, _⟩ | ⟨t, o, n, rfl, _, e1, e2⟩
    · cases z
    · obtain ⟨k, k1, k2⟩ := h cl t doc pm cv ctv
      exact BindsTo.of_defaults rfl e1 e2 k1 (k2 _)
end
theorem pm_actE {X : Cx} {E : EK} {k k' : Nat} {F : Nat → Fn} {mf : SM W} {x : Str} {p1 p2 : Pos} (C : Clos X.prog X.w X.K X.mg X.base k F) (hr : Room k' X.A) (hk : k ≤ k') (tk : Takes X (fun c d _ H => E c d H)) (hf : PM X E (.Name x p1) mf) : PM X E (.Call (.Name x p1) [] [] p2) (mAct F mf) :=
  pm_act (fun j => (C j).mono hk) hr tk hf
end RL
end
section
set_option maxRecDepth 100000
set_option maxHeartbeats 2000000
namespace RL
open PySem PySem.Spec L2
open PyProof.Rows hiding St
/-! ### plain reasoning about the denotations -/
/-- it ends well, with Q -/
noncomputable def Ev {α : Type} (r : Res α) (Q : α → Store → Prop) : Prop := ∃ a S, r = .ok a S ∧ Q a S
section
variable {α β : Type} {a : α} {S : Store} {Q Q' : α → Store → Prop} {r : Res α} {k : α → Store → Res β} {R : β → Store → Prop}
@[simp] theorem ev_ok : Ev (.ok a S) Q ↔ Q a S := ⟨fun ⟨b, T, e, h⟩ => (by cases e; exact h), fun h => ⟨a, S, rfl, h⟩⟩
@[simp] theorem ev_bad : Ev (.bad : Res α) Q ↔ False := ⟨fun ⟨_, _, e, _⟩ => (nomatch e), False.elim⟩
@[simp] theorem ev_bind : Ev (r.bind k) R ↔ Ev r fun a S => Ev (k a S) R := by
  cases r with
  | ok a S => exact (ev_ok (Q := fun a S => Ev (k a S) R)).symm
  | exc c ns ws S => exact ⟨fun ⟨_, _, e, _⟩ => (nomatch e), fun ⟨_, _, e, _⟩ => (nomatch e)⟩
  | bad => exact ⟨fun ⟨_, _, e, _⟩ => (nomatch e), fun ⟨_, _, e, _⟩ => (nomatch e)⟩
@[simp] theorem ok_bind : (Res.ok a S).bind k = k a S := rfl
@[simp] theorem bad_bind : (Res.bad : Res α).bind k = .bad := rfl
theorem Ev.mono (h : Ev r Q) (hq : ∀ a S, Q a S → Q' a S) : Ev r Q' := by
  obtain ⟨a, S, e, h⟩ := h
  exact ⟨a, S, e, hq _ _ h⟩
theorem Ev.ok (h : Q a S) : Ev (.ok a S) Q := ⟨a, S, rfl, h⟩
theorem Ev.eq {r : Res α} {a : α} {S : Store} (h : Ev r fun b T => b = a ∧ T = S) : r = .ok a S := by
  obtain ⟨b, T, e, rfl, rfl⟩ := h
  exact e
theorem Ev.ex (h : Ev r Q) : ∃ a S, r = .ok a S ∧ Q a S := h
end
section
variable {s : Env'} {S : Store} {w : W} {i : Nat}
@[simp] theorem mC_eq : mC w s S = .ok w S := rfl
@[simp] theorem mNil_eq : mNil s S = .ok [] S := rfl
@[simp] theorem mYes_eq : mYes s S = .ok true S := rfl
@[simp] theorem mSkip_eq : mSkip s S = .ok (.nx, s) S := rfl
@[simp] theorem mNoPart_eq : mNoPart s S = .ok none S := rfl
@[simp] theorem mVar_0 : mVar 0 (some w :: s) S = .ok w S := rfl
@[simp] theorem mVar_s {o : Option W} : mVar (i + 1) (o :: s) S = mVar i s S := by simp [mVar]
@[simp] theorem gNm_eq : gNm i w s S = .ok (s.set i (some w)) S := rfl
@[simp] theorem gTp_eq {n : Nat} {gs : GMs} {ws : List W} : gTp n gs (.tup ws) s S = if ws.length = n then gs ws s S else .bad := rfl
@[simp] theorem gNil_eq : gNil [] s S = .ok s S := rfl
@[simp] theorem gCons_eq {g : GM} {gs : GMs} {ws : List W} : gCons g gs (w :: ws) s S = (g w s S).bind fun s1 S1 => gs ws s1 S1 := rfl
end
section
variable {s : Env'} {S : Store} {w w1 w2 : W} {ws us : List W} {i j : Nat} {g g' : W → W → Store → Res W} {ma mb mc : SM W} {na nb : SM Bool} {m ms : SS} {mr : SM (List W)} {f : List W → Store → Res W} {gm : GM}
@[simp] theorem mBin_eq : mBin g ma mb s S = (ma s S).bind fun x S1 => (mb s S1).bind fun y S2 => g x y S2 := rfl
@[simp] theorem mUn_eq {g : W → Store → Res W} : mUn g ma s S = (ma s S).bind g := rfl
@[simp] theorem mTru_eq : mTru ma s S = (ma s S).bind fun w S1 => match truW S1 w with
  | some b => .ok b S1
  | none => .bad := rfl
@[simp] theorem asB_ok {b : Bool} : asB (.ok (.bl b) S) = .ok b S := rfl
@[simp] theorem mBT_eq : mBT g ma mb s S = (ma s S).bind fun x S1 => (mb s S1).bind fun y S2 => asB (g x y S2) := by
  unfold mBT mBin asB
  cases ma s S with
  | ok a S1 => dsimp [Res.bind]; cases mb s S1 <;> rfl
  | _ => rfl
@[simp] theorem mAndT_eq : mAndT na nb s S = (na s S).bind fun c S1 => if c = true then nb s S1 else .ok false S1 := rfl
@[simp] theorem mOrT_eq : mOrT na nb s S = (na s S).bind fun c S1 => if c = true then .ok true S1 else nb s S1 := rfl
@[simp] theorem mNotT_eq : mNotT na s S = (na s S).bind fun c S1 => .ok (!c) S1 := rfl
noncomputable def andV (ma : SM W) (s : Env') (w : W) (S : Store) : Res W := match w with
  | .bl true => ma s S
  | .bl false => .ok (.bl false) S
  | _ => .bad
noncomputable def orV (ma : SM W) (s : Env') (w : W) (S : Store) : Res W := match w with
  | .bl true => .ok (.bl true) S
  | .bl false => ma s S
  | _ => .bad
@[simp] theorem mAndV_eq : mAndV ma mb s S = (ma s S).bind (andV mb s) := rfl
@[simp] theorem mOrV_eq : mOrV ma mb s S = (ma s S).bind (orV mb s) := rfl
@[simp] theorem andV_bl {b : Bool} : andV ma s (.bl b) S = if b = true then ma s S else .ok (.bl false) S := by cases b <;> rfl
@[simp] theorem orV_bl {b : Bool} : orV ma s (.bl b) S = if b = true then .ok (.bl true) S else ma s S := by cases b <;> rfl
@[simp] theorem mIfE_eq : mIfE na ma mb s S = (na s S).bind fun k S1 => if k = true then ma s S1 else mb s S1 := rfl
noncomputable def chV (g' : W → W → Store → Res W) (mc : SM W) (s : Env') (y z : W) (S : Store) : Res W := match z with
  | .bl true => (mc s S).bind fun w S4 => g' y w S4
  | .bl false => .ok (.bl false) S
  | _ => .bad
@[simp] theorem mChain_eq : mChain g g' ma mb mc s S = (ma s S).bind fun x S1 => (mb s S1).bind fun y S2 => (g x y S2).bind (chV g' mc s y) := rfl
@[simp] theorem chV_bl {b : Bool} : chV g' mc s w (.bl b) S = if b = true then (mc s S).bind fun u S4 => g' w u S4 else .ok (.bl false) S := by cases b <;> rfl
@[simp] theorem mChT_eq : mChT g g' ma mb mc s S = asB ((ma s S).bind fun x S1 => (mb s S1).bind fun y S2 => (g x y S2).bind (chV g' mc s y)) := rfl
@[simp] theorem asB_bind {α : Type} {r : Res α} {k : α → Store → Res W} : asB (r.bind k) = r.bind fun a S => asB (k a S) := by cases r <;> rfl
@[simp] theorem asB_ite {c : Prop} [Decidable c] {a b : Res W} : asB (if c then a else b) = if c then asB a else asB b := by split <;> rfl
@[simp] theorem mPart_eq : mPart ma s S = (ma s S).bind fun w S1 => match w with
  | .int i => .ok (some i) S1
  | _ => .bad := rfl
@[simp] theorem mSl_eq {ml mh : SM (Option Int)} : mSl ma ml mh s S = (ma s S).bind fun w S1 => (ml s S1).bind fun lo S2 => (mh s S2).bind fun hi S3 => gSl w lo hi S3 := rfl
@[simp] theorem mCons_eq : mCons ma mr s S = (ma s S).bind fun w S1 => (mr s S1).bind fun ws S2 => .ok (w :: ws) S2 := rfl
@[simp] theorem mAp_eq : mAp f mr s S = (mr s S).bind f := rfl
@[simp] theorem g1_eq {g : W → Store → Res W} : g1 g [w] S = g w S := rfl
noncomputable def seqK (ms : SS) (p : Fl × Env') (S : Store) : Res (Fl × Env') := match p with
  | (.nx, s1) => ms s1 S
  | p => .ok p S
@[simp] theorem mSeq_eq : mSeq m ms s S = (m s S).bind (seqK ms) := rfl
@[simp] theorem seqK_nx : seqK ms (.nx, s) S = ms s S := rfl
@[simp] theorem seqK_rt : seqK ms (.rt w, s) S = .ok (.rt w, s) S := rfl
@[simp] theorem seqK_bk : seqK ms (.bk, s) S = .ok (.bk, s) S := rfl
@[simp] theorem seqK_ct : seqK ms (.ct, s) S = .ok (.ct, s) S := rfl
@[simp] theorem mExpr_eq : mExpr ma s S = (ma s S).bind fun _ S1 => .ok (.nx, s) S1 := rfl
@[simp] theorem mRet_eq : mRet ma s S = (ma s S).bind fun w S1 => .ok (.rt w, s) S1 := rfl
@[simp] theorem mIf_eq : mIf na m ms s S = (na s S).bind fun b S1 => if b = true then m s S1 else ms s S1 := rfl
@[simp] theorem mAsg_eq : mAsg ma gm s S = (ma s S).bind fun w S1 => (gm w s S1).bind fun s' S2 => .ok (.nx, s') S2 := rfl
noncomputable def parK (i j : Nat) (s : Env') (ws : List W) (S : Store) : Res (Fl × Env') := match ws with
  | [v, w] => .ok (.nx, (s.set i (some v)).set j (some w)) S
  | _ => .bad
@[simp] theorem mPar_eq : mPar i j mr s S = (mr s S).bind (parK i j s) := rfl
@[simp] theorem parK_eq : parK i j s [w1, w2] S = .ok (.nx, (s.set i (some w1)).set j (some w2)) S := rfl
@[simp] theorem mAug_eq : mAug i g ma s S = match s[i]? with
  | some (some x) => (ma s S).bind fun y S1 => (g x y S1).bind fun z S2 => .ok (.nx, s.set i (some z)) S2
  | _ => .bad := rfl
@[simp] theorem gSubI_eq {v : W} : gSubI ma mb v s S = (ma s S).bind fun o S1 => (mb s S1).bind fun i S2 => (gSetI o i v S2).bind fun _ S3 => .ok s S3 := rfl
@[simp] theorem mFor_eq {mi : SM ItW} : mFor mi gm m s S = (mi s S).bind fun it S1 => mForI it gm m s S1 := rfl
@[simp] theorem mForI_fix : mForI (.fix ws) gm m s S = mForL gm m ws s S := rfl
@[simp] theorem mLc_eq {mi : SM ItW} {vs : List Nat} : mLc mi vs gm na ma s S = (mi s S).bind fun it S1 => (mLcI it gm na ma (wipeW s vs) S1).bind fun acc S2 => .ok (.lst acc) S2 := rfl
@[simp] theorem mLcI_fix : mLcI (.fix ws) gm na ma s S = mLcL gm na ma s ws [] S := rfl
@[simp] theorem mCallK_eq {idx : List Nat} {g : Fn} {mr mk : SM (List W)} : mCallK idx g mr mk s S = (mr s S).bind fun us S1 => (mk s S1).bind fun ws S2 => g (pIdx idx (us ++ ws)) S2 := rfl
/- operators at values -/
@[simp] theorem gAdd_int {i j : Int} : gAdd (.int i) (.int j) S = .ok (.int (i + j)) S := rfl
@[simp] theorem gAdd_str {x y : Str} : gAdd (.str x) (.str y) S = if x.length + y.length ≤ lim then .ok (.str (x ++ y)) S else .bad := rfl
@[simp] theorem gAdd_lst : gAdd (.lst ws) (.lst us) S = if ws.length + us.length ≤ lim then .ok (.lst (ws ++ us)) S else .bad := rfl
@[simp] theorem gI_eq {f : Int → Int → Int} {i j : Int} : gI f (.int i) (.int j) S = .ok (.int (f i j)) S := rfl
@[simp] theorem gIc_eq {c : Int → Int → Bool} {f : Int → Int → Int} {i j : Int} : gIc c f (.int i) (.int j) S = if c i j = true then .ok (.int (f i j)) S else .bad := rfl
@[simp] theorem gIb_eq {f : Int → Int → Bool} {i j : Int} : gIb f (.int i) (.int j) S = .ok (.bl (f i j)) S := rfl
@[simp] theorem gMul_int {i j : Int} : gMul (.int i) (.int j) S = if cMul i j = true then .ok (.int (i * j)) S else .bad := rfl
@[simp] theorem gMul_lst {k : Int} : gMul (.lst ws) (.int k) S = if -(2 ^ 63) ≤ k ∧ k < 2 ^ 63 ∧ ws.length * k.toNat ≤ lim then .ok (.lst (List.replicate k.toNat ws).flatten) S else .bad := rfl
@[simp] theorem gEq_str {n : Bool} {x y : Str} : gEq n (.str x) (.str y) S = .ok (.bl (xorB n (decide (x = y)))) S := rfl
@[simp] theorem gEq_int {n : Bool} {x y : Int} : gEq n (.int x) (.int y) S = .ok (.bl (xorB n (decide (x = y)))) S := rfl
@[simp] theorem gEq_bl {n : Bool} {x y : Bool} : gEq n (.bl x) (.bl y) S = .ok (.bl (xorB n (decide (x = y)))) S := rfl
@[simp] theorem xorB_t {b : Bool} : xorB true b = !b := rfl
@[simp] theorem xorB_f {b : Bool} : xorB false b = b := rfl
@[simp] theorem gIs_non {n : Bool} : gIs n w .non S = .ok (.bl (xorB n (isNonW w))) S := rfl
@[simp] theorem gIs_bl {n a b : Bool} : gIs n (.bl a) (.bl b) S = .ok (.bl (xorB n (decide (a = b)))) S := rfl
@[simp] theorem gTup_eq : gTup ws S = if ws.length ≤ lim then .ok (.tup ws) S else .bad := rfl
@[simp] theorem gLst_eq : gLst ws S = if ws.length ≤ lim then .ok (.lst ws) S else .bad := rfl
@[simp] theorem gLstR_eq : gLstR ws S = if ws.length ≤ lim then .ok (.ref S.length) (S ++ [.lst ws]) else .bad := rfl
@[simp] theorem gInt_int {i : Int} : gInt (.int i) S = .ok (.int i) S := rfl
@[simp] theorem gLen_str {x : Str} : gLen (.str x) S = if x.length ≤ lim then .ok (.int x.length) S else .bad := rfl
@[simp] theorem gLen_tup : gLen (.tup ws) S = .ok (.int ws.length) S := rfl
@[simp] theorem gLen_lst : gLen (.lst ws) S = .ok (.int ws.length) S := rfl
@[simp] theorem gLen_flst : gLen (.flst ws) S = .ok (.int ws.length) S := rfl
@[simp] theorem gListOf_lst : gListOf (.lst ws) S = .ok (.lst ws) S := rfl
@[simp] theorem gListOf_flst : gListOf (.flst ws) S = .ok (.lst ws) S := rfl
@[simp] theorem gListOf_tup : gListOf (.tup ws) S = .ok (.lst ws) S := rfl
@[simp] theorem gSl_str {x : Str} {lo hi : Option Int} : gSl (.str x) lo hi S = if x.length ≤ lim then .ok (.str (cutS x lo hi)) S else .bad := rfl
@[simp] theorem gSl_tup {lo hi : Option Int} : gSl (.tup ws) lo hi S = .ok (.tup (cutW ws lo hi)) S := rfl
@[simp] theorem gSl_lst {lo hi : Option Int} : gSl (.lst ws) lo hi S = .ok (.lst (cutW ws lo hi)) S := rfl
@[simp] theorem gSl_flst {lo hi : Option Int} : gSl (.flst ws) lo hi S = .ok (.lst (cutW ws lo hi)) S := rfl
@[simp] theorem litl_le {n : Nat} : (no_index (OfNat.ofNat n : Nat) ≤ lim) ↔ (OfNat.ofNat n : Nat) ≤ 16777216 := Iff.rfl
@[simp] theorem litl_lt {n : Nat} : (no_index (OfNat.ofNat n : Nat) < lim) ↔ (OfNat.ofNat n : Nat) < 16777216 := Iff.rfl
theorem atI_nat {α : Type} {xs : List α} {i : Int} (h0 : 0 ≤ i) : atI xs i = xs[i.toNat]? := by
  unfold atI ixN
  rw [if_pos h0]
  by_cases h : i < xs.length
  · rw [if_pos h]; rfl
  · rw [if_neg h, List.getElem?_eq_none (by omega)]; rfl
@[simp] theorem seqL_ref {l : Nat} : seqL S (.ref l) = lstAt S l := rfl
@[simp] theorem seqL_lst : seqL S (.lst ws) = some ws := rfl
@[simp] theorem seqL_flst : seqL S (.flst ws) = some ws := rfl
@[simp] theorem gIx_ref' {l : Nat} {i : Int} : gIx (.ref l) (.int i) S = match (lstAt S l).bind fun ws => atI ws i with
  | some w => .ok w S
  | none => .bad := rfl
@[simp] theorem gIx_lst' {i : Int} : gIx (.lst ws) (.int i) S = match atI ws i with
  | some w => .ok w S
  | none => .bad := rfl
@[simp] theorem gIx_flst' {i : Int} : gIx (.flst ws) (.int i) S = match atI ws i with
  | some w => .ok w S
  | none => .bad := rfl
@[simp] theorem gIx_tup' {i : Int} : gIx (.tup ws) (.int i) S = match atI ws i with
  | some w => .ok w S
  | none => .bad := rfl
theorem gSetI_eq {l : Nat} {i : Int} : gSetI (.ref l) (.int i) w S = match lstAt S l with
  | some ws => (match ixN ws.length i with
    | some j => .ok () (S.set l (.lst (ws.set j w)))
    | none => .bad)
  | none => .bad := by
  dsimp only [gSetI, lstAt]
  generalize S[l]? = z
  rcases z with _ | o
  · rfl
  · cases o <;> rfl
@[simp] theorem lstAt_set {l : Nat} (h : l < S.length) : lstAt (S.set l (.lst ws)) l = some ws := by
  unfold lstAt; rw [List.getElem?_set_self h]
theorem lstAt_get {l : Nat} (h : S[l]? = some (.lst ws)) : lstAt S l = some ws := by unfold lstAt; rw [h]
@[simp] theorem atI_lit {α : Type} {xs : List α} {n : Nat} : atI xs (no_index (OfNat.ofNat n) : Int) = xs[(OfNat.ofNat n : Nat)]? := by
  show atI xs (Int.ofNat n) = xs[n]?
  exact atI_nat (i := Int.ofNat n) (Int.natCast_nonneg n)
end
/-! ### texts by their signs -/
noncomputable def tx (l : List Nat) : Str := ⟨l.toArray⟩
section
variable {a b : List Nat} {S : Store} {i : Int} {s : Env'}
@[simp] theorem tx_len : (tx a).length = a.length := SX.S_len a
@[simp] theorem tx_cat : tx a ++ tx b = tx (a ++ b) := SX.S_cat a b
@[simp] theorem tx_inj : (tx a = tx b) ↔ a = b := ⟨SX.S_inj, fun h => by rw [h]⟩
@[simp] theorem tx_sign {c : Nat} : (⟨#[c]⟩ : Str) = tx [c] := rfl
@[simp] theorem tx_list : (tx a).cps.toList = a := by simp [tx]
@[simp] theorem tx_size : (tx a).cps.size = a.length := by simp [tx]
theorem lit_eq {x : String} {a : List Nat} (h : (x.toList.map Char.toNat) = a) : Str.ofString x = tx a := by rw [Str.ofString_eq_toList, h]; rfl
@[simp] theorem cut_to (h : 0 ≤ i) : cutS (tx a) none (some i) = tx (a.take i.toNat) := by
  rw [C8.cutS_slice]; exact SX.slice_to h
@[simp] theorem cut_from (h : 0 ≤ i) : cutS (tx a) (some i) none = tx (a.drop i.toNat) := by
  rw [C8.cutS_slice]; exact SX.slice_from h
@[simp] theorem signs_tx : signs (tx a) = a.map fun c => .str (tx [c]) := by simp [signs]
@[simp] theorem gIx_str' {x : Str} : gIx (.str x) (.int i) S = if x.length ≤ lim then (match atI x.cps.toList i with
  | some c => .ok (.str (tx [c])) S
  | none => .bad) else .bad := rfl
theorem gIn_sign {n : Bool} {c : Nat} : gIn n (.str (tx [c])) (.str (tx a)) S = .ok (.bl (xorB n (decide (c ∈ a)))) S := by
  show Res.ok (W.bl (xorB n (!(Builtin.Str.occurrences (SX.S a) (SX.S [c]) 0 (SX.S a).length 1).isEmpty))) S = _
  rw [SX.in_one]
theorem gIn_strs {n : Bool} {x : Str} : ∀ {w : W} {ys : List Str}, (tupL w).or (seqL S w) = some (ys.map W.str) → gIn n (.str x) w S = .ok (.bl (xorB n (decide (x ∈ ys)))) S := by
  intro w ys h
  have h1 : (ys.map W.str).all flatW = true := by rw [List.all_map, List.all_eq_true]; intro _ _; rfl
  have h2 : inW (.str x) (ys.map W.str) = decide (x ∈ ys) := by
    unfold inW
    rw [List.any_map, Bool.eq_iff_iff, List.any_eq_true, decide_eq_true_eq]
    exact ⟨fun ⟨y, hy, e⟩ => by rw [← eq_of_beq (show (y == x) = true from e)]; exact hy, fun hx => ⟨x, hx, beq_self_eq_true x⟩⟩
  cases w with
  | str y => simp [tupL, seqL] at h
  | _ => simp only [gIn, h, h1, h2, flatW, and_self, if_true]
@[simp] theorem strsW_map {ys : List (List Nat)} : strsW (ys.map fun y => .str (tx y)) = some (ys.map tx) := by
  induction ys with
  | nil => rfl
  | cons y r ih => simp [strsW, ih]
@[simp] theorem gJoin_eq {x : Str} {w : W} : gJoin x w S = match (seqA S w).bind strsW with
  | some ys => if (ys.map (·.length)).sum + ys.length * x.length ≤ lim then .ok (.str (Txt.join x ys)) S else .bad
  | none => .bad := rfl
@[simp] theorem mM1_eq {g : Str → W → Store → Res W} {mo me : SM W} : mM1 g mo me s S = (mo s S).bind fun o S1 => match o with
  | .str a => (me s S1).bind fun w S2 => g a w S2
  | _ => .bad := rfl
theorem join_tx {ys : List (List Nat)} : Txt.join (tx a) (ys.map tx) = tx (TL.joinL a ys) := SX.join_S a ys
end
/-! ### comprehensions -/
section
variable {α : Type} {g : GM} {t : SM Bool} {e : SM W} {s0 : Env'} {S : Store}
@[simp] theorem nox_ok {a : α} : nox (.ok a S) = .ok a S := rfl
@[simp] theorem ev_nox {r : Res α} {Q : α → Store → Prop} : Ev (nox r) Q ↔ Ev r Q := by
  cases r with
  | exc c ns ws S => exact ⟨fun ⟨_, _, e, _⟩ => (nomatch e), fun ⟨_, _, e, _⟩ => (nomatch e)⟩
  | _ => exact Iff.rfl
@[simp] theorem mLcL_nil {acc : List W} : mLcL g t e s0 [] acc S = .ok acc S := rfl
@[simp] theorem mLcL_cons {w : W} {r acc : List W} : mLcL g t e s0 (w :: r) acc S = (mLcT g t e s0 w acc S).bind fun acc S => mLcL g t e s0 r acc S := rfl
@[simp] theorem mLcT_eq {w : W} {acc : List W} : mLcT g t e s0 w acc S = (nox (g w s0 S)).bind fun s1 S1 => (nox (t s1 S1)).bind fun b S2 => if b = true then (nox (e s1 S2)).bind fun y S3 => if acc.length < lim then .ok (acc ++ [y]) S3 else .bad else .ok acc S2 := rfl
/-- with an invariant -/
theorem lcL_ev (I : List W → List W → Store → Prop) (step : ∀ w r acc S, I (w :: r) acc S → Ev (mLcT g t e s0 w acc S) fun acc' S' => I r acc' S') : ∀ (ws acc : List W) (S : Store), I ws acc S → Ev (mLcL g t e s0 ws acc S) fun acc' S' => I [] acc' S'
  | [], acc, S, h => Ev.ok h
  | w :: r, acc, S, h => by
    rw [mLcL_cons, ev_bind]
    exact (step w r acc S h).mono fun a T q => lcL_ev I step r a T q
/-- where nothing is changed -/
theorem lcL_pure (f : W → W) : ∀ (ws acc : List W), acc.length + ws.length ≤ lim → (∀ w, w ∈ ws → ∃ s1, g w s0 S = .ok s1 S ∧ e s1 S = .ok (f w) S) → mLcL g mYes e s0 ws acc S = .ok (acc ++ ws.map f) S
  | [], acc, _, h => by simp
  | w :: r, acc, hl, h => by
    obtain ⟨s1, h1, h2⟩ := h w List.mem_cons_self
    rw [List.length_cons] at hl
    have hl' : acc.length < lim := by omega
    simp only [mLcL_cons, mLcT_eq, h1, nox_ok, ok_bind, mYes_eq, h2, if_true, hl']
    rw [lcL_pure f r (acc ++ [f w]) (by rw [List.length_append, List.length_singleton]; omega) fun w' m => h w' (List.mem_cons_of_mem _ m)]
    simp
@[simp] theorem mItems_eq {m : SM W} {s : Env'} : mItems m s S = (m s S).bind fun w S1 => match w with
  | .lst ws => .ok (.fix ws) S1
  | .flst ws => .ok (.fix ws) S1
  | .tup ws => .ok (.fix ws) S1
  | .str x => .ok (.fix (signs x)) S1
  | .ref l => match lstAt S1 l with
    | some _ => .ok (.gen (nxL l)) S1
    | none => .bad
  | _ => .bad := rfl
noncomputable def rng1 (ws : List W) (S1 : Store) : Res ItW := match ws with
  | [.int j] => if okR j = true then .ok (.fix (rngW 0 j.toNat)) S1 else .bad
  | _ => .bad
noncomputable def rng2 (ws : List W) (S1 : Store) : Res ItW := match ws with
  | [.int i, .int j] => if okR i = true ∧ okR j = true then .ok (.fix (rngW i (j - i).toNat)) S1 else .bad
  | _ => .bad
noncomputable def zipK (ws : List W) (S1 : Store) : Res ItW := match ws with
  | [w, w'] => match itL w, itL w' with
    | some a, some b => .ok (.fix (zipW a b)) S1
    | _, _ => match tupL w, tupL w' with
      | some a, some b => .ok (.fix (zipW a b)) S1
      | _, _ => zipG w w' S1
  | _ => .bad
@[simp] theorem mRange1_eq {mr : SM (List W)} {s : Env'} : mRange1 mr s S = (mr s S).bind rng1 := rfl
@[simp] theorem mRange2_eq {mr : SM (List W)} {s : Env'} : mRange2 mr s S = (mr s S).bind rng2 := rfl
@[simp] theorem mZip_eq {mr : SM (List W)} {s : Env'} : mZip mr s S = (mr s S).bind zipK := rfl
@[simp] theorem rng1_eq {j : Int} : rng1 [.int j] S = if okR j = true then .ok (.fix (rngW 0 j.toNat)) S else .bad := rfl
@[simp] theorem rng2_eq {i j : Int} : rng2 [.int i, .int j] S = if okR i = true ∧ okR j = true then .ok (.fix (rngW i (j - i).toNat)) S else .bad := rfl
@[simp] theorem zipK_lst {a b : List W} : zipK [.lst a, .lst b] S = .ok (.fix (zipW a b)) S := rfl
@[simp] theorem zipK_tup {a b : List W} : zipK [.tup a, .tup b] S = .ok (.fix (zipW a b)) S := rfl
end
/-! ### calls -/
section
variable {S : Store} {n : Nat} {m : SS} {ws : List W}
noncomputable def runK (p : Fl × Env') (S1 : Store) : Res W := match p with
  | (.nx, _) => .ok .non S1
  | (.rt w, _) => .ok w S1
  | _ => .bad
theorem runB_eq : runB n m ws S = (m (startW n ws) S).bind runK := rfl
@[simp] theorem runK_nx {s : Env'} : runK (.nx, s) S = .ok .non S := rfl
@[simp] theorem runK_rt {s : Env'} {w : W} : runK (.rt w, s) S = .ok w S := rfl
end
end RL
end
section
set_option maxRecDepth 100000
set_option maxHeartbeats 4000000
namespace LC
open PySem PySem.Spec L2 RL
open PyProof.Rows hiding St
noncomputable def c_LETTERS : W := .str "abcdefghijklmnopqrstuvwxyz"
noncomputable def c_MOST_LETTERS : W := .int 6
noncomputable def c_RESERVED : W := .tup ((["all", "none", "closed", "open", "rim", "within", "is", "empty", "if", "else", "end", "repeat", "call", "program", "inputs", "outputs", "self"] : List Str).map W.str)
noncomputable def sh_is_name : SS := (mSeq (mIf (mOrT (mNotT (mTru (mAp (gIsi ktB) (mCons (mVar 0) (mCons (mC (.ty "str")) mNil))))) (mOrT (mNotT (mChT gLe gLe (mC (.int 1)) (mAp (g1 gLen) (mCons (mVar 0) mNil)) (mC c_MOST_LETTERS))) (mBT (gIn false) (mVar 0) (mC c_RESERVED)))) (mRet (mC (.bl false))) mSkip)
  (mRet (mAp (g1 gAll) (mCons (mLc (mItems (mVar 0)) [1] (gNm 1) mYes (mBin (gIn false) (mVar 1) (mC c_LETTERS))) mNil))))
noncomputable def G_is_name : Fn := runB 2 sh_is_name
noncomputable def sh__law_cells : SS := (mSeq (mAsg (mC (.int 5741)) (gNm 1))
  (mSeq (mFor (mItems (mSl (mVar 0) mNoPart (mPart (mC (.int 63))))) (gNm 2) (mAsg (mBin gMod (mAp (g1 gInt) (mCons (mBin gAdd (mBin gAdd (mBin gMul (mVar 1) (mC (.int 43987))) (mBin gMod (mAp (g1 gInt) (mCons (mVar 2) mNil)) (mC (.int 2147483423)))) (mC (.int 61))) mNil)) (mC (.int 2147483629))) (gNm 1)))
  (mRet (mAp gLstR (mCons (mAp (g1 gListOf) (mCons (mSl (mVar 0) mNoPart (mPart (mC (.int 63)))) mNil)) (mCons (mC (.int 0)) (mCons (mC (.int 0)) (mCons (mVar 1) (mCons (mC (.int 0)) mNil)))))))))
noncomputable def G__law_cells : Fn := runB 3 sh__law_cells
noncomputable def sh__law_draw : SS := (mSeq (mAsg (mBin gAdd (mBin gIx (mVar 0) (mC (.int 4))) (mC (.int 1))) (gSubI (mVar 0) (mC (.int 4))))
  (mSeq (mIf (mAndT (mBT (gEq false) (mBin gIx (mVar 0) (mC (.int 2))) (mC (.int 0))) (mBT gLt (mBin gIx (mVar 0) (mC (.int 1))) (mAp (g1 gLen) (mCons (mBin gIx (mVar 0) (mC (.int 0))) mNil)))) (mSeq (mAsg (mBin gIx (mBin gIx (mVar 0) (mC (.int 0))) (mBin gIx (mVar 0) (mC (.int 1)))) (gNm 3))
  (mSeq (mAsg (mBin gAdd (mBin gIx (mVar 0) (mC (.int 1))) (mC (.int 1))) (gSubI (mVar 0) (mC (.int 1))))
  (mIf (mBT gGe (mVar 3) (mBin gPow (mC (.int 10)) (mC (.int 18)))) (mAsg (mVar 3) (gSubI (mVar 0) (mC (.int 2)))) (mAsg (mBin gMod (mAp (g1 gInt) (mCons (mBin gAdd (mBin gAdd (mBin gMul (mBin gIx (mVar 0) (mC (.int 3))) (mC (.int 38561))) (mBin gMul (mBin gMod (mAp (g1 gInt) (mCons (mVar 3) mNil)) (mC (.int 2147483423))) (mC (.int 27947)))) (mC (.int 83))) mNil)) (mC (.int 2147483629))) (gSubI (mVar 0) (mC (.int 3))))))) mSkip)
  (mSeq (mIf (mBT gGt (mBin gIx (mVar 0) (mC (.int 2))) (mC (.int 0))) (mSeq (mAsg (mBin gMod (mAp (g1 gInt) (mCons (mBin gIx (mVar 0) (mC (.int 2))) mNil)) (mVar 1)) (gNm 4))
  (mSeq (mAsg (mBin gDiv (mBin gIx (mVar 0) (mC (.int 2))) (mVar 1)) (gSubI (mVar 0) (mC (.int 2))))
  (mRet (mVar 4)))) mSkip)
  (mSeq (mAsg (mBin gIx (mVar 0) (mC (.int 3))) (gNm 2))
  (mSeq (mAsg (mBin gMod (mAp (g1 gInt) (mCons (mBin gAdd (mBin gAdd (mBin gAdd (mBin gMul (mBin gMul (mVar 2) (mVar 2)) (mC (.int 13))) (mBin gMul (mVar 2) (mC (.int 40961)))) (mBin gMul (mBin gIx (mVar 0) (mC (.int 4))) (mC (.int 1299689)))) (mC (.int 60649))) mNil)) (mC (.int 2147483629))) (gSubI (mVar 0) (mC (.int 3))))
  (mRet (mBin gMod (mAp (g1 gInt) (mCons (mBin gAdd (mBin gDiv (mBin gIx (mVar 0) (mC (.int 3))) (mC (.int 89))) (mBin gMul (mBin gMod (mAp (g1 gInt) (mCons (mBin gIx (mVar 0) (mC (.int 3))) mNil)) (mC (.int 7907))) (mC (.int 71)))) mNil)) (mVar 1))))))))
noncomputable def G__law_draw : Fn := runB 5 sh__law_draw
noncomputable def sh__law_one : SS := (mRet (mBin gIx (mVar 1) (mAp G__law_draw (mCons (mVar 0) (mCons (mAp (g1 gLen) (mCons (mVar 1) mNil)) mNil)))))
noncomputable def G__law_one : Fn := runB 2 sh__law_one
noncomputable def sh__law_same (G__law_same' : Fn) : SS := (mSeq (mIf (mTru (mAp (gIsi ktB) (mCons (mVar 1) (mCons (mAp gTup (mCons (mC (.ty "list")) (mCons (mC (.ty "tuple")) mNil))) mNil)))) (mSeq (mIf (mOrT (mBT (gEq true) (mAp (gIsi ktB) (mCons (mVar 0) (mCons (mC (.ty "list")) mNil))) (mAp (gIsi ktB) (mCons (mVar 1) (mCons (mC (.ty "list")) mNil)))) (mBT (gEq true) (mAp (gIsi ktB) (mCons (mVar 0) (mCons (mC (.ty "tuple")) mNil))) (mAp (gIsi ktB) (mCons (mVar 1) (mCons (mC (.ty "tuple")) mNil))))) (mRet (mC (.bl false))) mSkip)
  (mRet (mAndV (mBin (gEq false) (mAp (g1 gLen) (mCons (mVar 0) mNil)) (mAp (g1 gLen) (mCons (mVar 1) mNil))) (mAp (g1 gAll) (mCons (mLc (mZip (mCons (mVar 0) (mCons (mVar 1) mNil))) [2, 3] (gTp 2 (gCons (gNm 2) (gCons (gNm 3) gNil))) mYes (mAp G__law_same' (mCons (mVar 2) (mCons (mVar 3) mNil)))) mNil))))) mSkip)
  (mSeq (mIf (mOrT (mBT (gIs false) (mVar 1) (mC .non)) (mBT (gIs false) (mVar 0) (mC .non))) (mRet (mAndV (mBin (gIs false) (mVar 1) (mC .non)) (mBin (gIs false) (mVar 0) (mC .non)))) mSkip)
  (mSeq (mIf (mOrT (mBT (gEq true) (mAp (gIsi ktB) (mCons (mVar 1) (mCons (mC (.ty "bool")) mNil))) (mAp (gIsi ktB) (mCons (mVar 0) (mCons (mC (.ty "bool")) mNil)))) (mBT (gEq true) (mAp (gIsi ktB) (mCons (mVar 1) (mCons (mC (.ty "int")) mNil))) (mAp (gIsi ktB) (mCons (mVar 0) (mCons (mC (.ty "int")) mNil))))) (mRet (mC (.bl false))) mSkip)
  (mRet (mAndV (mBin (gEq false) (mAp (gIsi ktB) (mCons (mVar 1) (mCons (mC (.ty "str")) mNil))) (mAp (gIsi ktB) (mCons (mVar 0) (mCons (mC (.ty "str")) mNil)))) (mBin (gEq false) (mVar 0) (mVar 1)))))))
noncomputable def G__law_same : Nat → Fn
  | 0 => fun _ _ => .bad
  | n + 1 => runB 4 (sh__law_same (G__law_same n))
noncomputable def sh__law_words : SS := (mSeq (mAsg (mC (.str "bcdfghjklmnpqrstvwxyz")) (gNm 2))
  (mSeq (mAsg (mM1 gJoin (mC (.str "")) (mLc (mRange1 (mCons (mAp G__law_draw (mCons (mVar 0) (mCons (mC (.int 6)) mNil))) mNil)) [6] (gNm 6) mYes (mAp G__law_one (mCons (mVar 0) (mCons (mVar 2) mNil))))) (gNm 3))
  (mSeq (mAsg (mAp gTup (mCons (mAp G__law_draw (mCons (mVar 0) (mCons (mBin gAdd (mAp (g1 gLen) (mCons (mVar 3) mNil)) (mC (.int 1))) mNil))) (mCons (mAp G__law_draw (mCons (mVar 0) (mCons (mC (.int 21)) mNil))) mNil))) (gTp 2 (gCons (gNm 4) (gCons (gNm 5) gNil))))
  (mRet (mLc (mRange1 (mCons (mVar 1) mNil)) [6] (gNm 6) mYes (mBin gAdd (mBin gAdd (mSl (mVar 3) mNoPart (mPart (mVar 4))) (mBin gIx (mVar 2) (mBin gMod (mAp (g1 gInt) (mCons (mBin gAdd (mVar 5) (mBin gMul (mC (.int 5)) (mVar 6))) mNil)) (mC (.int 21))))) (mSl (mVar 3) (mPart (mVar 4)) mNoPart)))))))
noncomputable def G__law_words : Fn := runB 7 sh__law_words
structure Bag where
  cells : List Int
  i : Int
  big : Int
  seed : Int
  cnt : Int
noncomputable def Bag.ob (b : Bag) : Ob := .lst [.lst (b.cells.map .int), .int b.i, .int b.big, .int b.seed, .int b.cnt]
structure Bag.Ok (b : Bag) : Prop where
  i : 0 ≤ b.i
  big : 0 ≤ b.big
  s0 : 0 ≤ b.seed
  s1 : b.seed < 2147483629
theorem cMul_r {i j : Int} (h : -(2 ^ 64) < j) (h' : j < 2 ^ 64) : cMul i j = true := by
  simp only [cMul, Bool.or_eq_true, Bool.and_eq_true, decide_eq_true_eq]
  exact .inr ⟨h, h'⟩
theorem cMul_l {i j : Int} (h : -(2 ^ 64) < i) (h' : i < 2 ^ 64) : cMul i j = true := by
  simp only [cMul, Bool.or_eq_true, Bool.and_eq_true, decide_eq_true_eq]
  exact .inl ⟨h, h'⟩
section
variable {S : Store} {l : Nat} {b : Bag} {n : Int}
/-- the end of a draw -/
noncomputable def DrawQ (S : Store) (l : Nat) (n : Int) (a : W) (T : Store) : Prop := ∃ k b', a = .int k ∧ T = S.set l (Bag.ob b') ∧ 0 ≤ k ∧ k < n ∧ Bag.Ok b'
theorem draw_ev (h : S[l]? = some b.ob) (hb : b.Ok) (h0 : 0 < n) (h1 : n < 1073741824) : Ev (G__law_draw [.ref l, .int n] S) (DrawQ S l n) := by
  obtain ⟨cells, i, big, seed, cnt⟩ := b
  obtain ⟨hi, hbig, hs0, hs1⟩ := hb
  dsimp only at hi hbig hs0 hs1
  have hl : l < S.length := by
    rcases Nat.lt_or_ge l S.length with z | z
    · exact z
    · rw [List.getElem?_eq_none z] at h; cases h
  have h := lstAt_get (ws := [.lst (cells.map .int), .int i, .int big, .int seed, .int cnt]) h
  have hm : ∀ x : Int, 0 ≤ x % 2147483629 ∧ x % 2147483629 < 2147483629 := fun x => ⟨Int.emod_nonneg _ (by decide), Int.emod_lt_of_pos _ (by decide)⟩
  have hn : ∀ x : Int, 0 ≤ x % n ∧ x % n < n := fun x => ⟨Int.emod_nonneg _ (by omega), Int.emod_lt_of_pos _ h0⟩
  have hsd : cMul seed seed = true := cMul_r (by omega) (by omega)
  have fin : ∀ x b', Bag.Ok b' → DrawQ S l n (.int (x % n)) (S.set l (Bag.ob b')) := fun x b' hb => ⟨_, _, rfl, rfl, (hn _).1, (hn _).2, hb⟩
  have e1 : ∀ x : Int, cMul x 38561 = true := fun x => cMul_r (by decide) (by decide)
  have e2 : ∀ x : Int, cMul x 27947 = true := fun x => cMul_r (by decide) (by decide)
  have e3 : ∀ x : Int, cMul x 13 = true := fun x => cMul_r (by decide) (by decide)
  have e4 : ∀ x : Int, cMul x 40961 = true := fun x => cMul_r (by decide) (by decide)
  have e5 : ∀ x : Int, cMul x 1299689 = true := fun x => cMul_r (by decide) (by decide)
  have e6 : ∀ x : Int, cMul x 71 = true := fun x => cMul_r (by decide) (by decide)
  by_cases c1 : big = 0 ∧ i < cells.length
  · obtain ⟨c1, c2⟩ := c1
    subst c1
    obtain ⟨cell, hc⟩ : ∃ c, cells[i.toNat]? = some c := ⟨_, List.getElem?_eq_getElem (by omega)⟩
    have hat : atI (cells.map W.int) i = some (.int cell) := by rw [atI_nat hi, List.getElem?_map, hc]; rfl
    by_cases c3 : 1000000000000000000 ≤ cell
    · have : 0 < cell := by omega
      simp [G__law_draw, runB, startW, sh__law_draw, h, gSetI_eq, hl, hat, ixN, c2, c3, this, h0, h1]
      exact fin cell ⟨cells, i + 1, cell / n, seed, cnt + 1⟩ ⟨by dsimp; omega, Int.ediv_nonneg (by omega) (by omega), hs0, hs1⟩
    · have hsd2 := fun x : Int => cMul_r (i := x % 2147483629) (j := x % 2147483629) (by have := hm x; omega) (by have := hm x; omega)
      simp [G__law_draw, runB, startW, sh__law_draw, h, gSetI_eq, hl, hat, ixN, c2, c3, h0, h1, e1, e2, e3, e4, e5, e6, hsd2]
      exact fin _ ⟨cells, i + 1, 0, _, cnt + 1⟩ ⟨by dsimp; omega, Int.le_refl 0, (hm _).1, (hm _).2⟩
  · by_cases c4 : 0 < big
    · have : ¬ big = 0 := by omega
      simp [G__law_draw, runB, startW, sh__law_draw, h, gSetI_eq, hl, ixN, this, c4, h0, h1]
      exact fin _ ⟨cells, i, big / n, seed, cnt + 1⟩ ⟨hi, Int.ediv_nonneg (by omega) (by omega), hs0, hs1⟩
    · have : big = 0 := by omega
      subst this
      have c2 : ¬ i < cells.length := fun z => c1 ⟨rfl, z⟩
      simp [G__law_draw, runB, startW, sh__law_draw, h, gSetI_eq, hl, ixN, c2, h0, h1, e1, e2, e3, e4, e5, e6, hsd]
      exact fin _ ⟨cells, i, 0, _, cnt + 1⟩ ⟨hi, Int.le_refl 0, (hm _).1, (hm _).2⟩
theorem draw_ok (h : S[l]? = some b.ob) (hb : b.Ok) (h0 : 0 < n) (h1 : n < 1073741824) : ∃ k b', 0 ≤ k ∧ k < n ∧ Bag.Ok b' ∧ G__law_draw [.ref l, .int n] S = .ok (.int k) (S.set l b'.ob) := by
  obtain ⟨a, T, e, k, b', rfl, rfl, h2, h3, h4⟩ := (draw_ev h hb h0 h1).ex
  exact ⟨k, b', h2, h3, h4, e⟩
end
section
variable {S : Store} {l : Nat} {b : Bag} {n : Int}
theorem ev_draw {Q : W → Store → Prop} (h : S[l]? = some b.ob) (hb : b.Ok) (h0 : 0 < n) (h1 : n < 1073741824) (k : ∀ (i : Nat) b', (i : Int) < n → Bag.Ok b' → Q (.int i) (S.set l b'.ob)) : Ev (G__law_draw [.ref l, .int n] S) Q := by
  obtain ⟨j, b', h2, h3, h4, e⟩ := draw_ok h hb h0 h1
  rw [e]
  obtain ⟨i, rfl⟩ := Int.eq_ofNat_of_zero_le h2
  exact Ev.ok (k i b' h3 h4)
theorem ev_one {Q : W → Store → Prop} {ws : List W} {w : W} (hw : w = .lst ws ∨ w = .tup ws) (h : S[l]? = some b.ob) (hb : b.Ok) (h0 : ws ≠ []) (h1 : ws.length < 1073741824) (k : ∀ u b', u ∈ ws → Bag.Ok b' → Q u (S.set l b'.ob)) : Ev (G__law_one [.ref l, w] S) Q := by
  have e0 : ∀ T, gLen w T = .ok (.int ws.length) T := by rcases hw with rfl | rfl <;> intro T <;> rfl
  have hp : 0 < ws.length := List.length_pos_iff.mpr h0
  have e1 : ∀ (i : Nat) T, (i : Int) < ws.length → ∃ u, u ∈ ws ∧ gIx w (.int i) T = .ok u T := by
    intro i T hi
    have hi : i < ws.length := by omega
    refine ⟨ws[i], List.getElem_mem _, ?_⟩
    have : atI ws (i : Int) = some ws[i] := by rw [atI_nat (Int.natCast_nonneg i), Int.toNat_natCast]; exact List.getElem?_eq_getElem hi
    rcases hw with rfl | rfl <;> simp [this]
  simp only [G__law_one, runB_eq, startW, sh__law_one, mRet_eq, mBin_eq, mAp_eq, mCons_eq, ev_bind, ev_ok, mVar_0, mVar_s, mNil_eq, g1_eq, List.map_cons, List.map_nil, List.append_nil, List.cons_append, e0, Nat.zero_add]
  refine ev_draw h hb (by omega) (by omega) fun i b' hi hb' => ?_
  obtain ⟨u, hu, e⟩ := e1 i (S.set l b'.ob) hi
  simp only [e, ev_ok, runK_rt]
  exact k u b' hu hb'
theorem ev_one_str {Q : W → Store → Prop} {a : List Nat} (h : S[l]? = some b.ob) (hb : b.Ok) (h0 : a ≠ []) (h1 : a.length ≤ lim) (k : ∀ c b', c ∈ a → Bag.Ok b' → Q (.str (tx [c])) (S.set l b'.ob)) : Ev (G__law_one [.ref l, .str (tx a)] S) Q := by
  have hp : 0 < a.length := List.length_pos_iff.mpr h0
  have hlim : lim = 16777216 := rfl
  simp only [G__law_one, runB_eq, startW, sh__law_one, mRet_eq, mBin_eq, mAp_eq, mCons_eq, ev_bind, ev_ok, mVar_0, mVar_s, mNil_eq, g1_eq, List.map_cons, List.map_nil, List.append_nil, List.cons_append, gLen_str, tx_len, h1, if_true, Nat.zero_add]
  refine ev_draw h hb (by omega) (by omega) fun i b' hi hb' => ?_
  have hi : i < a.length := by omega
  have : atI a (i : Int) = some a[i] := by rw [atI_nat (Int.natCast_nonneg i), Int.toNat_natCast]; exact List.getElem?_eq_getElem hi
  simp only [gIx_str', tx_len, h1, if_true, tx_list, this, ev_ok, runK_rt]
  exact k a[i] b' (List.getElem_mem _) hb'
end
section
variable {S : Store}
theorem cells_loop : ∀ (ns : List Int) (x : W) (seed : Int) (o : Option W), 0 ≤ seed → seed < 2147483629 → ∃ (seed' : Int) (o' : Option W), 0 ≤ seed' ∧ seed' < 2147483629 ∧
    mForL (gNm 2) (mAsg (mBin gMod (mAp (g1 gInt) (mCons (mBin gAdd (mBin gAdd (mBin gMul (mVar 1) (mC (.int 43987))) (mBin gMod (mAp (g1 gInt) (mCons (mVar 2) mNil)) (mC (.int 2147483423)))) (mC (.int 61))) mNil)) (mC (.int 2147483629))) (gNm 1)) (ns.map W.int) [some x, some (.int seed), o] S = .ok (.nx, [some x, some (.int seed'), o']) S
  | [], x, seed, o, h0, h1 => ⟨seed, o, h0, h1, rfl⟩
  | n :: r, x, seed, o, h0, h1 => by
    have e1 : cMul seed 43987 = true := cMul_r (by decide) (by decide)
    obtain ⟨seed', o', h2, h3, e⟩ := cells_loop r x ((seed * 43987 + n % 2147483423 + 61) % 2147483629) (some (.int n)) (Int.emod_nonneg _ (by decide)) (Int.emod_lt_of_pos _ (by decide))
    refine ⟨seed', o', h2, h3, ?_⟩
    rw [← e, List.map_cons]
    simp [mForL, e1]
theorem cells_ok {ns : List Int} (h : ns.length ≤ 63) : ∃ b, Bag.Ok b ∧ G__law_cells [.flst (ns.map .int)] S = .ok (.ref S.length) (S ++ [b.ob]) := by
  obtain ⟨seed', o', h2, h3, e⟩ := cells_loop (S := S) ns (.flst (ns.map .int)) 5741 none (by decide) (by decide)
  have hc : cutW (ns.map W.int) none (some 63) = ns.map W.int := by
    unfold cutW
    have : min 63 ns.length = ns.length := by omega
    simp only [HT.sIx, List.length_map, Nat.sub_zero, List.drop_zero, show ¬ ((63 : Int) < 0) by decide, if_false, show (63 : Int).toNat = 63 from rfl, this]
    exact List.take_of_length_le (by rw [List.length_map]; exact Nat.le_refl _)
  refine ⟨⟨ns, 0, 0, seed', 0⟩, ⟨Int.le_refl 0, Int.le_refl 0, h2, h3⟩, ?_⟩
  simp [G__law_cells, runB_eq, startW, sh__law_cells, hc, e, Bag.ob]
end
/-! ### equality of plain values -/
noncomputable def plainW : Nat → W → Bool
  | 0, _ => false
  | n + 1, w => match w with
    | .non | .bl _ | .int _ | .str _ => true
    | .lst ws => decide (ws.length ≤ lim) && ws.all (plainW n)
    | .tup ws => decide (ws.length ≤ lim) && ws.all (plainW n)
    | _ => false
theorem zipW_self (ws : List W) : zipW ws ws = ws.map fun w => .tup [w, w] := by
  induction ws with
  | nil => rfl
  | cons w r ih =>
    have : zipW (w :: r) (w :: r) = .tup [w, w] :: zipW r r := rfl
    rw [this, ih]
    rfl
theorem blsW_map {α : Type} (f : α → Bool) (ws : List α) : blsW (ws.map fun w => W.bl (f w)) = some (ws.map f) := by
  induction ws with
  | nil => rfl
  | cons w r ih => simp [blsW, ih]
theorem same_self : ∀ (n : Nat) (w : W), plainW n w = true → ∀ S, G__law_same n [w, w] S = .ok (.bl true) S
  | 0, w, h => by cases h
  | n + 1, w, h => fun S => by
    have inner : ∀ (ws : List W), ws.all (plainW n) = true → ws.length ≤ lim → ∀ (T : Store) (a b : Option W), mLcL (gTp 2 (gCons (gNm 2) (gCons (gNm 3) gNil))) mYes (mAp (G__law_same n) (mCons (mVar 2) (mCons (mVar 3) mNil))) [a, b, none, none] (zipW ws ws) [] T = .ok (ws.map fun _ => .bl true) T := by
      intro ws hw hl T a b
      rw [zipW_self, lcL_pure (fun _ => .bl true) _ [] (by simpa using hl) fun u hu => ?_]
      · simp
      · obtain ⟨v, hv, rfl⟩ := List.mem_map.mp hu
        refine ⟨[a, b, some v, some v], by simp, ?_⟩
        have := same_self n v (List.all_eq_true.mp hw v hv) T
        simp [this]
    have isi : ∀ (t : String) (w : W) (x : String) (b : Bool) T, tyOf T w = some (.ty t) → ktB (.ty t) (.ty x) = some b → gIsi ktB [w, .ty x] T = .ok (.bl b) T := by
      intro t w x b T h1 h2
      simp [gIsi, gIsi1, h1, isCls, h2]
    have isi2 : ∀ (t : String) (w : W) (b b' : Bool) T, tyOf T w = some (.ty t) → ktB (.ty t) (.ty "list") = some b → ktB (.ty t) (.ty "tuple") = some b' → gIsi ktB [w, .tup [.ty "list", .ty "tuple"]] T = .ok (.bl (b || b')) T := by
      intro t w b b' T h1 h2 h3
      cases b <;> cases b' <;> simp [gIsi, gIsi1, h1, isCls, tupL, ktAny, h2, h3]
    have seqs : ∀ (ws : List W), ws.all (plainW n) = true → ws.length ≤ lim → G__law_same (n + 1) [.lst ws, .lst ws] S = .ok (.bl true) S ∧ G__law_same (n + 1) [.tup ws, .tup ws] S = .ok (.bl true) S := by
      intro ws hw hl
      refine ⟨?_, ?_⟩
      · have i1 := isi "list" (.lst ws) "list" true S rfl rfl
        have i2 := isi "list" (.lst ws) "tuple" false S rfl rfl
        have i3 := isi2 "list" (.lst ws) true false S rfl rfl rfl
        simp [G__law_same, runB_eq, startW, sh__law_same, i1, i2, i3, inner ws hw hl, blsW_map, truW, wipeW, gAll]
      · have i1 := isi "tuple" (.tup ws) "list" false S rfl rfl
        have i2 := isi "tuple" (.tup ws) "tuple" true S rfl rfl
        have i3 := isi2 "tuple" (.tup ws) false true S rfl rfl rfl
        simp [G__law_same, runB_eq, startW, sh__law_same, i1, i2, i3, inner ws hw hl, blsW_map, truW, wipeW, gAll]
    cases w with
    | lst ws => rw [plainW, Bool.and_eq_true, decide_eq_true_eq] at h; exact (seqs ws h.2 h.1).1
    | tup ws => rw [plainW, Bool.and_eq_true, decide_eq_true_eq] at h; exact (seqs ws h.2 h.1).2
    | non =>
      have i3 := isi2 "NoneType" .non false false S rfl rfl rfl
      simp [G__law_same, runB_eq, startW, sh__law_same, i3, truW, isNonW]
    | bl b =>
      have i1 := isi "bool" (.bl b) "bool" true S rfl rfl
      have i2 := isi "bool" (.bl b) "int" true S rfl rfl
      have i4 := isi "bool" (.bl b) "str" false S rfl rfl
      have i3 := isi2 "bool" (.bl b) false false S rfl rfl rfl
      simp [G__law_same, runB_eq, startW, sh__law_same, i1, i2, i3, i4, truW, isNonW]
    | int b =>
      have i1 := isi "int" (.int b) "bool" false S rfl rfl
      have i2 := isi "int" (.int b) "int" true S rfl rfl
      have i4 := isi "int" (.int b) "str" false S rfl rfl
      have i3 := isi2 "int" (.int b) false false S rfl rfl rfl
      simp [G__law_same, runB_eq, startW, sh__law_same, i1, i2, i3, i4, truW, isNonW]
    | str b =>
      have i1 := isi "str" (.str b) "bool" false S rfl rfl
      have i2 := isi "str" (.str b) "int" false S rfl rfl
      have i4 := isi "str" (.str b) "str" true S rfl rfl
      have i3 := isi2 "str" (.str b) false false S rfl rfl rfl
      simp [G__law_same, runB_eq, startW, sh__law_same, i1, i2, i3, i4, truW, isNonW]
    | _ => cases h
/-! ### words -/
noncomputable def consL : List Nat := [98, 99, 100, 102, 103, 104, 106, 107, 108, 109, 110, 112, 113, 114, 115, 116, 118, 119, 120, 121, 122]
theorem cons_eq : Str.ofString "bcdfghjklmnpqrstvwxyz" = tx consL := lit_eq (by decide +kernel)
noncomputable def wordL (stem : List Nat) (at' first k : Nat) : List Nat := stem.take at' ++ (consL[(first + 5 * k) % 21]?.toList ++ stem.drop at')
/-- what a row of words is -/
structure Words (ws : List (List Nat)) (m : Nat) : Prop where
  ex : ∃ (stem : List Nat) (at' first : Nat), (∀ c, c ∈ stem → c ∈ consL) ∧ stem.length ≤ 5 ∧ at' ≤ stem.length ∧ first < 21 ∧ ws = (List.range m).map (wordL stem at' first)
section
variable {S : Store} {l : Nat} {b : Bag}
theorem joinL_nil : ∀ cs : List Nat, TL.joinL [] (cs.map fun c => [c]) = cs
  | [] => rfl
  | [c] => rfl
  | c :: d :: r => by
    have := joinL_nil (d :: r)
    rw [List.map_cons] at this ⊢
    simp [TL.joinL] at this ⊢
    exact this
theorem get_len {S : Store} {l : Nat} {o : Ob} (h : S[l]? = some o) : l < S.length := by
  rcases Nat.lt_or_ge l S.length with z | z
  · exact z
  · rw [List.getElem?_eq_none z] at h; cases h
theorem sum1 : ∀ cs : List Nat, ((((cs.map fun c => [c]).map tx).map (·.length))).sum = cs.length
  | [] => rfl
  | c :: r => by
    have := sum1 r
    rw [List.map_cons, List.map_cons, List.map_cons, List.sum_cons, this, tx_len]
    simp only [List.length_cons, List.length_nil]
    omega
theorem ev_words {Q : W → Store → Prop} {m : Nat} (hm : m ≤ 1000) (h : S[l]? = some b.ob) (hb : b.Ok) (k : ∀ ws b', Words ws m → Bag.Ok b' → Q (.lst (ws.map fun a => .str (tx a))) (S.set l b'.ob)) : Ev (G__law_words [.ref l, .int m] S) Q := by
  have hl := get_len h
  have get : ∀ b', (S.set l (Bag.ob b'))[l]? = some b'.ob := fun b' => List.getElem?_set_self hl
  simp only [G__law_words, runB_eq, sh__law_words, cons_eq, ev_bind, mSeq_eq, mAsg_eq, mC_eq, ev_ok, gNm_eq, startW, List.map_cons, List.map_nil, List.length_cons, List.length_nil, List.replicate, List.cons_append, List.nil_append, List.set_cons_succ, List.set_cons_zero, seqK_nx, mM1_eq, mLc_eq, mRange1_eq, mAp_eq, mCons_eq, mVar_0, mVar_s, mNil_eq]
  refine ev_draw h hb (by decide) (by decide) fun j b1 hj hb1 => ?_
  have hj6 : j ≤ 5 := by omega
  have ok1 : okR (j : Int) = true := by simp [okR]; omega
  simp only [rng1_eq, ok1, if_true, ev_ok, mLcI_fix, Int.toNat_natCast, wipeW, List.set_cons_succ, List.set_cons_zero]
  refine Ev.mono (lcL_ev (fun r acc T => ∃ cs b', (∀ c, c ∈ cs → c ∈ consL) ∧ cs.length + r.length ≤ 5 ∧ Bag.Ok b' ∧ T = S.set l b'.ob ∧ acc = cs.map fun c => .str (tx [c])) ?_ _ _ _ ⟨[], b1, nofun, by simp [rngW]; exact hj6, hb1, rfl, rfl⟩) ?_
  · rintro w r acc T ⟨cs, b', h1, h2, h3, rfl, rfl⟩
    rw [List.length_cons] at h2
    simp only [mLcT_eq, gNm_eq, nox_ok, ok_bind, mYes_eq, if_true, ev_bind, ev_nox, List.set_cons_succ, List.set_cons_zero, mAp_eq, mCons_eq, mVar_0, mVar_s, mNil_eq, ev_ok]
    refine ev_one_str (get b') h3 (by decide) (by decide) fun c b2 hc hb2 => ?_
    have : (cs.map fun c => W.str (tx [c])).length < lim := by rw [List.length_map]; show cs.length < 16777216; omega
    rw [if_pos this]
    refine Ev.ok ⟨cs ++ [c], b2, fun d hd => ?_, by simp; omega, hb2, by rw [List.set_set], by simp⟩
    rcases List.mem_append.mp hd with z | z
    · exact h1 d z
    · rw [List.mem_singleton.mp z]; exact hc
  rintro acc T ⟨stem, b2, hst, hlen, hb2, rfl, rfl⟩
  have hlen : stem.length ≤ 5 := by simpa using hlen
  have sw : strsW (stem.map fun c => .str (tx [c])) = some ((stem.map fun c => [c]).map tx) := by
    have := strsW_map (ys := stem.map fun c => [c])
    rw [List.map_map] at this
    exact this
  have sm : ((((stem.map fun c => [c]).map tx).map (·.length)).sum + ((stem.map fun c => [c]).map tx).length * ([] : List Nat).length) ≤ lim := by
    have : ((((stem.map fun c => [c]).map tx).map (·.length))).sum = stem.length := by
      exact sum1 stem
    rw [this]
    show stem.length + _ * 0 ≤ 16777216
    omega
  have ln : stem.length ≤ lim := by show stem.length ≤ 16777216; omega
  have ln2 : (2 : Nat) ≤ lim := by decide
  simp only [gJoin_eq, seqA, tupL, seqL_lst, Option.none_or, Option.bind_some, sw, show (Str.ofString "") = tx [] from lit_eq rfl, sm, if_true, ev_ok, join_tx, joinL_nil, List.set_cons_succ, List.set_cons_zero, seqK_nx, mSeq_eq, mAsg_eq, mAp_eq, mCons_eq, mVar_0, mVar_s, mNil_eq, mC_eq, mBin_eq, ev_bind, g1_eq, gLen_str, tx_len, ln, gAdd_int]
  refine ev_draw (n := (stem.length : Int) + 1) (get b2) hb2 (by omega) (by omega) fun at' b3 hat hb3 => ?_
  refine ev_draw (by rw [List.set_set]; exact get b3) hb3 (by decide) (by decide) fun first b4 hfi hb4 => ?_
  have hat : at' ≤ stem.length := by omega
  have hfi : first < 21 := by omega
  have ok2 : okR (m : Int) = true := by simp [okR]; omega
  simp only [gTup_eq, List.length_cons, List.length_nil, Nat.zero_add, Nat.reduceAdd, ln2, if_true, ev_ok, gTp_eq, gCons_eq, gNm_eq, gNil_eq, ok_bind, List.set_cons_succ, List.set_cons_zero, seqK_nx, mRet_eq, ev_bind, mLc_eq, mRange1_eq, mCons_eq, mVar_0, mVar_s, mNil_eq, rng1_eq, ok2, mLcI_fix, Int.toNat_natCast, wipeW, List.set_set]
  have body : ∀ (i : Nat), i < m → ∀ T a b, (mBin gAdd (mBin gAdd (mSl (mVar 3) mNoPart (mPart (mVar 4))) (mBin gIx (mVar 2) (mBin gMod (mAp (g1 gInt) (mCons (mBin gAdd (mVar 5) (mBin gMul (mC (.int 5)) (mVar 6))) mNil)) (mC (.int 21))))) (mSl (mVar 3) (mPart (mVar 4)) mNoPart)) [a, b, some (.str (tx consL)), some (.str (tx stem)), some (.int at'), some (.int first), some (.int i)] T = .ok (.str (tx (wordL stem at' first i))) T := by
    intro i hi T a b
    have hm : cMul 5 (i : Int) = true := cMul_l (by decide) (by decide)
    have hx : (((first : Int) + 5 * (i : Int)) % 21) = (((first + 5 * i) % 21 : Nat) : Int) := by omega
    have h21 : (first + 5 * i) % 21 < consL.length := Nat.mod_lt _ (by decide)
    have hc := List.getElem?_eq_getElem h21
    have hat2 : atI consL (((first : Int) + 5 * (i : Int)) % 21) = some consL[(first + 5 * i) % 21] := by
      rw [hx, RL.atI_nat (Int.natCast_nonneg _), Int.toNat_natCast]
      exact hc
    have hw : wordL stem at' first i = stem.take at' ++ (consL[(first + 5 * i) % 21] :: stem.drop at') := by
      unfold wordL
      rw [hc]
      rfl
    have hs1 : min at' stem.length + 1 ≤ lim := by show _ ≤ 16777216; omega
    have hs2 : min at' stem.length + 1 + (stem.length - at') ≤ lim := by show _ ≤ 16777216; omega
    have l21 : consL.length ≤ lim := by decide
    simp [hm, ln, hat2, hs1, hs2, l21, hw]
  have loop : ∀ T a b, mLcL (gNm 6) mYes (mBin gAdd (mBin gAdd (mSl (mVar 3) mNoPart (mPart (mVar 4))) (mBin gIx (mVar 2) (mBin gMod (mAp (g1 gInt) (mCons (mBin gAdd (mVar 5) (mBin gMul (mC (.int 5)) (mVar 6))) mNil)) (mC (.int 21))))) (mSl (mVar 3) (mPart (mVar 4)) mNoPart)) [a, b, some (.str (tx consL)), some (.str (tx stem)), some (.int at'), some (.int first), none] (rngW 0 m) [] T = .ok ((rngW 0 m).map fun w => match w with
      | .int i => .str (tx (wordL stem at' first i.toNat))
      | w => w) T := by
    intro T a b
    rw [lcL_pure (fun w => match w with
      | .int i => .str (tx (wordL stem at' first i.toNat))
      | w => w) _ [] (by simp [rngW]; show m ≤ 16777216; omega) fun u hu => ?_]
    · simp
    · obtain ⟨i, hi, rfl⟩ := List.mem_map.mp hu
      refine ⟨[a, b, some (.str (tx consL)), some (.str (tx stem)), some (.int at'), some (.int first), some (.int i)], by simp, ?_⟩
      rw [body i (List.mem_range.mp hi)]
      simp
  rw [loop]
  simp only [ev_ok, runK_rt]
  have := k ((List.range m).map (wordL stem at' first)) b4 ⟨stem, at', first, hst, hlen, hat, hfi, rfl⟩ hb4
  simpa [rngW, Function.comp_def] using this
end
/-! ### names -/
noncomputable def lettersL : List Nat := [97, 98, 99, 100, 101, 102, 103, 104, 105, 106, 107, 108, 109, 110, 111, 112, 113, 114, 115, 116, 117, 118, 119, 120, 121, 122]
theorem letters_eq : c_LETTERS = .str (tx lettersL) := congrArg W.str (lit_eq (by decide +kernel))
noncomputable def reservedL : List (List Nat) := (["all", "none", "closed", "open", "rim", "within", "is", "empty", "if", "else", "end", "repeat", "call", "program", "inputs", "outputs", "self"] : List String).map fun x => x.toList.map Char.toNat
theorem reserved_eq : c_RESERVED = .tup ((reservedL.map tx).map W.str) := by
  have : ∀ ys : List String, ys.map (fun x => Str.ofString x) = (ys.map fun x => x.toList.map Char.toNat).map tx := by
    intro ys
    rw [List.map_map]
    exact List.map_congr_left fun x _ => lit_eq rfl
  exact congrArg (fun z => W.tup (z.map W.str)) (this ["all", "none", "closed", "open", "rim", "within", "is", "empty", "if", "else", "end", "repeat", "call", "program", "inputs", "outputs", "self"])
/-- whether these signs are a name -/
noncomputable def nameL (a : List Nat) : Bool := decide (1 ≤ a.length) && decide (a.length ≤ 6) && !decide (a ∈ reservedL) && a.all fun c => decide (c ∈ lettersL)
section
variable {S : Store} {a : List Nat}
theorem isi_str {x : Str} : gIsi ktB [.str x, .ty "str"] S = .ok (.bl true) S := by
  simp [gIsi, gIsi1, tyOf, isCls, show ktB (.ty "str") (.ty "str") = some true from rfl]
theorem is_name_tx (h : a.length ≤ lim) : G_is_name [.str (tx a)] S = .ok (.bl (nameL a)) S := by
  have hres : ∀ T, gIn false (.str (tx a)) c_RESERVED T = .ok (.bl (decide (a ∈ reservedL))) T := by
    intro T
    rw [reserved_eq, gIn_strs (ys := reservedL.map tx) rfl]
    have : decide (tx a ∈ reservedL.map tx) = decide (a ∈ reservedL) := by
      rw [decide_eq_decide, List.mem_map]
      exact ⟨fun ⟨b, hb, e⟩ => by rw [← tx_inj.mp e]; exact hb, fun hb => ⟨a, hb, rfl⟩⟩
    rw [this, xorB_f]
  have loop : ∀ o T, mLcL (gNm 1) mYes (mBin (gIn false) (mVar 1) (mC c_LETTERS)) [o, none] (a.map fun c => .str (tx [c])) [] T = .ok (a.map fun c => .bl (decide (c ∈ lettersL))) T := by
    intro o T
    rw [lcL_pure (fun w => match w with
      | .str x => .bl (x.cps.toList.all fun c => decide (c ∈ lettersL))
      | w => w) _ [] (by simpa using h) fun u hu => ?_]
    · rw [List.nil_append, List.map_map]
      refine congrArg (fun z => Res.ok z T) (List.map_congr_left fun c _ => ?_)
      show W.bl ((tx [c]).cps.toList.all _) = _
      rw [tx_list]
      simp
    · obtain ⟨c, hc, rfl⟩ := List.mem_map.mp hu
      refine ⟨_, rfl, ?_⟩
      show _ = Res.ok (W.bl ((tx [c]).cps.toList.all _)) T
      rw [tx_list]
      simp [letters_eq, gIn_sign]
  have bs : ∀ f : Nat → Bool, blsW (a.map fun c => .bl (f c)) = some (a.map f) := fun f => blsW_map f a
  by_cases h1 : 1 ≤ a.length
  · by_cases h6 : a.length ≤ 6
    · by_cases hr : a ∈ reservedL
      · simp [G_is_name, runB_eq, startW, sh_is_name, isi_str, truW, h, h1, h6, hres, hr, nameL, c_MOST_LETTERS]
        simp [show (1 : Int) ≤ (a.length : Int) from by omega, show (a.length : Int) ≤ 6 from by omega, hres, hr]
      · simp [G_is_name, runB_eq, startW, sh_is_name, isi_str, truW, h, h1, h6, hres, hr, nameL, c_MOST_LETTERS, show (1 : Int) ≤ (a.length : Int) from by omega, show (a.length : Int) ≤ 6 from by omega, loop, wipeW, gAll, bs]
    · simp [G_is_name, runB_eq, startW, sh_is_name, isi_str, truW, h, h1, h6, nameL, c_MOST_LETTERS, show (1 : Int) ≤ (a.length : Int) from by omega, show ¬ (a.length : Int) ≤ 6 from by omega]
  · simp [G_is_name, runB_eq, startW, sh_is_name, isi_str, truW, h, h1, nameL, c_MOST_LETTERS, show ¬ (1 : Int) ≤ (a.length : Int) from by omega]
end
theorem is_name_no {S : Store} {w : W} {t : String} (h1 : tyOf S w = some (.ty t)) (h2 : ktB (.ty t) (.ty "str") = some false) : G_is_name [w] S = .ok (.bl false) S := by
  have : gIsi ktB [w, .ty "str"] S = .ok (.bl false) S := by simp [gIsi, gIsi1, h1, isCls, h2]
  simp [G_is_name, runB_eq, startW, sh_is_name, this, truW]
end LC
end
section
set_option maxRecDepth 100000
set_option maxHeartbeats 4000000
/-! sets made of lists -/
namespace RS
open PySem PySem.Spec PyProof.Rows L2
section
variable {P : Program} {w : World} {A : Around} {E : Value → Shared → Prop} {s : Shared}
noncomputable abbrev emp (w : World) : Obj := { cls := .type "set", dict := none, data := .set #[] 0 (.fresh 0 0 (!w.params.followText "set-order")) }
noncomputable abbrev lit (l : Addr) : Obj := { cls := .type "list_iterator", data := .fields #[.ref l, .int 0 0] }
/-- the new set at S, walked into from the list at l -/
noncomputable abbrev hp2 (w : World) (h : Heap) (l : Addr) : Heap := (h.push (emp w)).push (lit l)
structure Kept (s t : Shared) : Prop where
  g : t.gens = s.gens
  d : t.drawn = s.drawn
  o : t.os = s.os
  h : ∀ b u, s.heap.get? b = some u → t.heap.get? b = some u
theorem set_list {l : Addr} {xs : Array Value} {Z : Heap → Prop} {Q : Value → Shared → Prop} (noh : A.handled = none) (isl : s.heap.IsList l xs)
    (loop : ∀ (B : Around) (t : Shared) (R : Result → Shared → Prop), B.handled = none → B.units ≤ A.units + 3 → t.heap = hp2 w s.heap l → t.gens = s.gens → t.drawn = s.drawn → t.os = s.os →
      (∀ t', Kept s t' → Z t'.heap → R (.ok (.ret .none)) t') → codeAny (model P w) B (.builtin "set.update.loop" ⟨[.ref s.heap.objs.size, .ref (s.heap.push (emp w)).objs.size], []⟩) R t)
    (fin : ∀ (g : Heap) (tk : Nat), Z g → (∀ b u, s.heap.get? b = some u → g.get? b = some u) → Q (.ref s.heap.objs.size) { s with heap := g, toks := tk }) :
    wpAny (model P w) A (call (.type "set") [.ref l]) Q E s := by
  obtain ⟨cc, tl, mro⟩ := F.called_set.mro
  have made := F.called_set.made
  have sub0 := F.called_set.sub
  refine wpAny_call (codeAny_of_tree ?_)
  change wpAny _ _ (callAny (.type "set") _) _ _ _
  refine wpAny_pure ⟨Code.quiet_builtin _ (by decide +kernel), ?_⟩
  refine codeAny_builtin F.entry_type_call ?_
  have wgt := weight_type_call_type "set" [.ref l] []
  rw [Around.under_plain wgt rfl]
  have q1 := F.called_set.notType
  have q2 := F.called_set.canCreate
  have q3 := F.typeCall_set_1 (.ref l)
  repeat (any_goals (first | assumption | wp_step))
  refine codeAny_mono (code_set_led1 (.ref l) (E := E) (Q₁ := fun v t => v = .ref s.heap.objs.size ∧ t = { s with heap := s.heap.push (emp w) }) ⟨rfl, rfl⟩) fun r t hr => ?_
  match r, hr with
  | .error e, hr => exact hr
  | .ok (.ret obj), hr =>
    obtain ⟨rfl, rfl⟩ := hr
    have atS : (s.heap.push (emp w)).get? s.heap.objs.size = some (emp w) := Heap.get?_push_size _ rfl
    have tyS : Shared.TypeIs { s with heap := s.heap.push (emp w) } (.ref s.heap.objs.size) "set" := ⟨_, atS, rfl⟩
    have i1 := F.called_set.init.lookup
    have i2 := F.called_set.init.bind (.ref s.heap.objs.size)
    repeat (any_goals (first | assumption | wp_step))
    refine codeAny_mono (codeAny_call_builtin (R := wants (fun r t => r = .none ∧ ∃ g tk, t = { s with heap := g, toks := tk } ∧ Z g ∧ ∀ b u, s.heap.get? b = some u → g.get? b = some u) E) F.called_set.init.plain F.entry_set_init (check_set_init_1 tyS ?_)) fun r t hr => ?_
    · obtain ⟨⟨ocls, odict, odata, oslots⟩, hol, hcl, nl, hdl⟩ := isl
      simp only at hcl hdl
      subst hcl; subst hdl
      have atl : (s.heap.push (emp w)).get? l = some { cls := .type "list", dict := odict, data := .seq xs nl, slots := oslots } := Heap.get?_push_of_some _ hol
      have n1 := F.sub_list_set
      have n2 := F.sub_list_frozenset
      have n3 : (Value.type "list" == Value.type "dict") = false := by decide
      have lst1 : (s.heap.push (emp w)).IsList l xs := ⟨_, atl, rfl, nl, rfl⟩
      unfold Builtin.«set.__init__» noKeywords Builtin.Frozenset.updateFrom
      generalize hPI : pyIter = PI
      wp_walk
      subst hPI
      refine wpAny_pyIter_list lst1 ?_
      refine wpAny_bind (wpAny_runValue ?_)
      refine loop _ _ _ (by simp [noh]) ?un rfl rfl rfl rfl fun t' k z => ?_
      case un => simp only [Around.in1_units]; omega
      obtain ⟨g, g2, d', tk', os'⟩ := t'
      obtain ⟨k1, k2, k3, k4⟩ := k
      dsimp only at k1 k2 k3
      subst k1; subst k2; subst k3
      change wpAny _ _ _ _ _ _
      refine wpAny_pure ?_
      change wpAny _ _ (ret Value.none) _ _ _
      exact wpAny_pure ⟨rfl, g, tk', rfl, z, k4⟩
    · match r, hr with
      | .error e, hr => exact hr
      | .ok (.ret v), hr =>
        obtain ⟨rfl, g, tk, rfl, z, k⟩ := hr
        repeat (any_goals (first | assumption | wp_step))
        exact fin _ _ z k
end
end RS
end
section
set_option maxRecDepth 100000
set_option maxHeartbeats 4000000
/-! orders, sorted lists -/
namespace OrdX
structure Tot {α : Type} (lt : α → α → Bool) : Prop where
  irr : ∀ a, lt a a = false
  tr : ∀ a b c, lt a b = true → lt b c = true → lt a c = true
  tri : ∀ a b, a ≠ b → lt a b = true ∨ lt b a = true
section
variable {α : Type} {lt : α → α → Bool}
theorem Tot.asym (o : Tot lt) {a b : α} (h : lt a b = true) : lt b a = false := by
  cases e : lt b a with
  | false => rfl
  | true => have := o.tr _ _ _ h e; rw [o.irr] at this; cases this
noncomputable def insS (lt : α → α → Bool) (x : α) : List α → List α
  | [] => [x]
  | y :: r => if lt y x = true then y :: insS lt x r else x :: y :: r
noncomputable def srt (lt : α → α → Bool) : List α → List α
  | [] => []
  | x :: r => insS lt x (srt lt r)
noncomputable def insU (lt : α → α → Bool) (x : α) : List α → List α
  | [] => [x]
  | y :: r => if lt y x = true then y :: insU lt x r else if lt x y = true then x :: y :: r else y :: r
noncomputable def usrt (lt : α → α → Bool) : List α → List α
  | [] => []
  | x :: r => insU lt x (usrt lt r)
theorem insS_perm (x : α) : ∀ l : List α, (insS lt x l).Perm (x :: l)
  | [] => List.Perm.refl _
  | y :: r => by
    unfold insS
    split
    · exact ((insS_perm x r).cons y).trans (List.Perm.swap x y r)
    · exact List.Perm.refl _
theorem srt_perm : ∀ l : List α, (srt lt l).Perm l
  | [] => List.Perm.refl _
  | x :: r => (insS_perm x _).trans ((srt_perm r).cons x)
theorem insS_pw (o : Tot lt) (x : α) : ∀ l : List α, l.Pairwise (fun a b => lt b a = false) → (insS lt x l).Pairwise fun a b => lt b a = false
  | [], _ => List.pairwise_singleton _ _
  | y :: r, h => by
    rw [List.pairwise_cons] at h
    unfold insS
    split
    · rename_i hy
      refine List.pairwise_cons.mpr ⟨fun z hz => ?_, insS_pw o x r h.2⟩
      rcases List.mem_cons.mp ((insS_perm x r).mem_iff.mp hz) with rfl | hz
      · exact o.asym hy
      · exact h.1 z hz
    · rename_i hy
      have hy : lt y x = false := by simpa using hy
      refine List.pairwise_cons.mpr ⟨fun z hz => ?_, List.pairwise_cons.mpr h⟩
      rcases List.mem_cons.mp hz with rfl | hz
      · exact hy
      · cases e : lt z x with
        | false => rfl
        | true =>
          have h1 := h.1 z hz
          by_cases hxy : y = x
          · subst hxy
            rw [h1] at e; cases e
          · rcases o.tri y x hxy with k | k
            · rw [hy] at k; cases k
            · have := o.tr _ _ _ e k
              rw [h1] at this; cases this
theorem srt_pw (o : Tot lt) : ∀ l : List α, (srt lt l).Pairwise fun a b => lt b a = false
  | [] => List.Pairwise.nil
  | x :: r => insS_pw o x _ (srt_pw o r)
/-- two sorted lists of the same things are the same -/
theorem sorted_eq (o : Tot lt) : ∀ {l m : List α}, l.Perm m → l.Pairwise (fun a b => lt b a = false) → m.Pairwise (fun a b => lt b a = false) → l = m
  | [], m, p, _, _ => by rw [List.nil_perm.mp p]
  | x :: l, [], p, _, _ => by have := p.length_eq; simp at this
  | x :: l, y :: m, p, h1, h2 => by
    rw [List.pairwise_cons] at h1 h2
    have e : x = y := by
      by_cases e : ∃ _ : x = y, True
      · exact e.1
      · have e : x ≠ y := fun z => e ⟨z, trivial⟩
        have a1 : x ∈ m := by
          rcases List.mem_cons.mp (p.mem_iff.mp List.mem_cons_self) with z | z
          · exact absurd z e
          · exact z
        have a2 : y ∈ l := by
          rcases List.mem_cons.mp (p.symm.mem_iff.mp List.mem_cons_self) with z | z
          · exact absurd z.symm e
          · exact z
        have b1 := h2.1 x a1
        have b2 := h1.1 y a2
        rcases o.tri x y e with z | z
        · rw [b1] at z; cases z
        · rw [b2] at z; cases z
    subst e
    rw [sorted_eq o (List.Perm.cons_inv p) h1.2 h2.2]
theorem srt_eq (o : Tot lt) {l m : List α} (p : m.Perm l) (h : m.Pairwise fun a b => lt b a = false) : m = srt lt l := sorted_eq o (p.trans (srt_perm l).symm) h (srt_pw o l)
theorem mem_insU (o : Tot lt) (x z : α) : ∀ l : List α, z ∈ insU lt x l ↔ z = x ∨ z ∈ l
  | [] => by simp [insU]
  | y :: r => by
    unfold insU
    split
    · simp only [List.mem_cons, mem_insU o x z r]
      exact ⟨fun h => h.elim (fun h => .inr (.inl h)) fun h => h.elim .inl fun h => .inr (.inr h), fun h => h.elim (fun h => .inr (.inl h)) fun h => h.elim .inl fun h => .inr (.inr h)⟩
    · rename_i h1
      split
      · simp only [List.mem_cons]
      · rename_i h2
        have : x = y := by
          by_cases e : ∃ _ : x = y, True
          · exact e.1
          · rcases o.tri x y (fun z => e ⟨z, trivial⟩) with k | k
            · exact absurd k h2
            · exact absurd k h1
        subst this
        simp only [List.mem_cons]
        exact ⟨.inr, fun h => h.elim .inl id⟩
theorem mem_usrt (o : Tot lt) (z : α) : ∀ l : List α, z ∈ usrt lt l ↔ z ∈ l
  | [] => Iff.rfl
  | x :: r => by rw [usrt, mem_insU o, mem_usrt o z r, List.mem_cons]
theorem insU_pw (o : Tot lt) (x : α) : ∀ l : List α, l.Pairwise (fun a b => lt a b = true) → (insU lt x l).Pairwise fun a b => lt a b = true
  | [], _ => List.pairwise_singleton _ _
  | y :: r, h => by
    have h0 := h
    rw [List.pairwise_cons] at h
    unfold insU
    split
    · rename_i hy
      refine List.pairwise_cons.mpr ⟨fun z hz => ?_, insU_pw o x r h.2⟩
      rcases (mem_insU o x z r).mp hz with rfl | hz
      · exact hy
      · exact h.1 z hz
    · split
      · rename_i hy
        refine List.pairwise_cons.mpr ⟨fun z hz => ?_, h0⟩
        rcases List.mem_cons.mp hz with rfl | hz
        · exact hy
        · exact o.tr _ _ _ hy (h.1 z hz)
      · exact h0
theorem usrt_pw (o : Tot lt) : ∀ l : List α, (usrt lt l).Pairwise fun a b => lt a b = true
  | [] => List.Pairwise.nil
  | x :: r => insU_pw o x _ (usrt_pw o r)
theorem strict_eq (o : Tot lt) : ∀ {l m : List α}, (∀ x, x ∈ l ↔ x ∈ m) → l.Pairwise (fun a b => lt a b = true) → m.Pairwise (fun a b => lt a b = true) → l = m
  | [], [], _, _, _ => rfl
  | [], y :: m, p, _, _ => by have := (p y).mpr List.mem_cons_self; cases this
  | x :: l, [], p, _, _ => by have := (p x).mp List.mem_cons_self; cases this
  | x :: l, y :: m, p, h1, h2 => by
    rw [List.pairwise_cons] at h1 h2
    have e : x = y := by
      by_cases e : ∃ _ : x = y, True
      · exact e.1
      · have e : x ≠ y := fun z => e ⟨z, trivial⟩
        have a1 : x ∈ m := by
          rcases List.mem_cons.mp ((p x).mp List.mem_cons_self) with z | z
          · exact absurd z e
          · exact z
        have a2 : y ∈ l := by
          rcases List.mem_cons.mp ((p y).mpr List.mem_cons_self) with z | z
          · exact absurd z.symm e
          · exact z
        have b := o.asym (h2.1 x a1)
        rw [h1.1 y a2] at b; cases b
    subst e
    refine congrArg (x :: ·) (strict_eq o (fun z => ⟨fun hz => ?_, fun hz => ?_⟩) h1.2 h2.2)
    · rcases List.mem_cons.mp ((p z).mp (List.mem_cons_of_mem _ hz)) with rfl | k
      · have := h1.1 z hz; rw [o.irr] at this; cases this
      · exact k
    · rcases List.mem_cons.mp ((p z).mpr (List.mem_cons_of_mem _ hz)) with rfl | k
      · have := h2.1 z hz; rw [o.irr] at this; cases this
      · exact k
theorem usrt_eq (o : Tot lt) {l m : List α} (p : ∀ x, x ∈ m ↔ x ∈ l) (h : m.Pairwise fun a b => lt a b = true) : m = usrt lt l := strict_eq o (fun x => (p x).trans (mem_usrt o x l).symm) h (usrt_pw o l)
end
end OrdX
end
section
set_option maxRecDepth 100000
set_option maxHeartbeats 4000000
namespace RL
open PySem PySem.Spec L2 OrdX
open PyProof.Rows hiding St
variable [Lams]
/-! ### set(xs) of a list of ints -/
/-! ### lists of ints, of tuples of ints, of texts -/
noncomputable def intsW : List W → Option (List Int)
  | [] => some []
  | .int i :: r => (intsW r).map (i :: ·)
  | _ => none
section
variable {K : PySem.W.Frag} {mg : Str → Option Value} {ρ ρ' : RT} {H H' : Hp}
theorem intsW_of : ∀ {ws : List W} {ns : List Int}, intsW ws = some ns → ws = ns.map W.int
  | [], ns, h => by cases (Option.some.inj h : [] = ns); rfl
  | w :: r, ns, h => by
    cases w with
    | int i =>
      cases e : intsW r with
      | none => simp [intsW, e] at h
      | some ms =>
        simp [intsW, e] at h
        subst h
        rw [intsW_of e] <;> rfl
    | _ => cases h
theorem rws_ints : ∀ {ns : List Int} {vs : List V}, RWs K mg ρ H (ns.map W.int) vs → vs = ns.map V.int
  | [], _, .nil => rfl
  | n :: r, _, .cons (.int _) t => by rw [rws_ints t] <;> rfl
theorem strs_rws : ∀ ns : List Str, RWs K mg ρ H (ns.map W.str) (ns.map V.str)
  | [] => .nil
  | n :: r => .cons (.str n) (strs_rws r)
end
/-! ### list.append, list.insert -/
noncomputable def gAppend (o : W) (ws : List W) (S : Store) : Res W := match o, ws with
  | .ref l, [w] => match lstAt S l with
    | some us => if us.length < lim then .ok .non (S.set l (.lst (us ++ [w]))) else .bad
    | none => .bad
  | _, _ => .bad
/-- it stands as a list before the arguments are read -/
noncomputable def gMetL (g : W → List W → Store → Res W) (mo : SM W) (mr : SM (List W)) : SM W := fun s S => (mo s S).bind fun o S1 => match o with
  | .ref l => match lstAt S1 l with
    | some _ => (mr s S1).bind fun ws S2 => g o ws S2
    | none => .bad
  | _ => .bad
section
variable {X : Cx} {E : EK} {o e : Expr} {es : List Expr} {mo : SM W} {mr : SM (List W)} {apos cpos : Pos} {name : Str} {id : String}
noncomputable def okMet (X : Cx) (E : EK) (g : W → List W → Store → Res W) (r : V → List V → Hp → VK → Prop) : Prop := ∀ ρ H S w x ws vs Q, RepS X.K X.mg ρ H S → RW X.K X.mg ρ H w x → RWs X.K X.mg ρ H ws vs → Out X.K X.mg (RW X.K X.mg) E ρ H (g w ws S) Q → r x vs H Q
theorem pm_metL {g : W → List W → Store → Res W} {r : V → List V → Hp → VK → Prop} (slot : Slot "list" name id) (hty : typeOf (.builtin id) = pure (.type "method_descriptor")) (hm : MtR X id r) (hr : okMet X E g r) (ho : PM X E o mo) (ha : PAM X E (e :: es) mr)
    (hbase : attributeBase o name X.env (eval o X.env) = eval o X.env := by rfl)
    (hfew : ((backTo cpos (starEach (e :: es) X.env)).all (fun x => !x.1) && (backToKw cpos (keywordEach [] X.env)).all (fun x => x.1.isSome)
      && decide ((e :: es).length + ([] : List Keyword).length + (if ([] : List Keyword).isEmpty then 0 else 1) < 30)) = true := by rfl)
    (hline : (apos.endLine == cpos.line) = true := by rfl) (hs : starEach (e :: es) X.env = (false, eval e X.env) :: starEach es X.env := by rfl) (hplain : (backTo cpos (starEach es X.env)).any (·.1) = false := by rfl) :
    PM X E (.Call (.Attribute o name apos) (e :: es) [] cpos) (gMetL g mo mr) := by
  refine pe_imp (pe_bm PySem.F.plainAttrs_list slot hty hm ho ha hbase hfew hline hs hplain) fun σ H Q h => tX.bind h fun ρ1 H1 w x s S1 rep env rx out => ?_
  cases w with
  | ref l =>
    cases rx with
    | @ref l p hl =>
      dsimp only at out
      cases e1 : lstAt S1 l with
      | none => rw [e1] at out; exact out.elim
      | some us =>
        rw [e1] at out
        obtain ⟨vs, h1, h2⟩ := lstAt_of rep hl e1
        refine ⟨.inl ⟨rfl, vs, .inl (.inl h1)⟩, ρ1, s, S1, rep, env, Out.bind out fun ρ2 H2 ws xs S2 e2 rep2 r2 o2 => hr ρ2 H2 S2 (.ref l) _ ws xs Q rep2 (.ref (e2.pre _ _ hl)) r2 o2⟩
  | _ => exact out.elim
theorem out_wr {K : PySem.W.Frag} {mg : Str → Option Value} {ρ : RT} {H : Hp} {S : Store} {Q : VK} {l : Nat} {p : Addr} {ws : List W} {vs : List V} (rep : RepS K mg ρ H S) (hl : ρ.r[l]? = some p) (out : Out K mg (RW K mg) E ρ H (.ok .non (S.set l (.lst ws))) Q)
    (hr : ∀ ρ' H', Ext ρ H ρ' H' → RWs K mg ρ' H' ws vs) : Q .non (upd H p (.lst vs)) := by
  have ma : p ∈ ρ.r := List.mem_of_getElem? hl
  have ex : Ext ρ H ρ (upd H p (.lst vs)) := ⟨fun _ _ h => h, fun _ h => h, fun _ h => .inl h, fun b u hb n => by rw [upd_ne fun z : b = p => n (by rw [z]; exact ma)]; exact hb, fun _ h => .inl h, fun b _ hb => by
    by_cases hz : b = p
    · subst hz; rw [upd_same]; simp
    · rw [upd_ne hz]; exact hb, rfl⟩
  obtain ⟨e3, rep3⟩ := rep.wr hl (o := .lst vs) (u := .lst ws) (.lst upd_same (hr _ _ ex))
  exact out ρ _ _ e3 rep3 .non
theorem ok_append : okMet X E gAppend rAppend := fun ρ H S w x ws vs Q rep rx rs out => by
  cases w with
  | ref l =>
    cases rx with
    | @ref l p hl =>
      match ws, rs, out with
      | [], _, out => exact out.elim
      | _ :: _ :: _, _, out => exact out.elim
      | [u], rs, out =>
        obtain ⟨y, rfl, ru⟩ := rs.one
        dsimp only [gAppend] at out
        cases e1 : lstAt S l with
        | none => rw [e1] at out; exact out.elim
        | some us =>
          simp only [e1] at out
          obtain ⟨xs, h1, h2⟩ := lstAt_of rep hl e1
          split at out
          · rename_i hz
            refine ⟨p, xs, y, rfl, rfl, h1, by rw [← h2.length]; exact Nat.lt_of_lt_of_le hz (Nat.le_of_eq sizeLine_eq.symm), ?_⟩
            exact out_wr rep hl out fun ρ' H' e => (h2.ext e).append (.cons (ru.ext e) .nil)
          · exact out.elim
  | _ => exact out.elim
end
end RL
end
section
set_option maxRecDepth 100000
set_option maxHeartbeats 2000000
namespace RL
open PySem PySem.Spec L2 OrdX
open PyProof.Rows hiding St
/-! ### loops, by invariants -/
/-- what an iterator walks over -/
noncomputable def Items (S : Store) (it : ItW) (ws : List W) : Prop := match it with
  | .fix us => us = ws
  | .gen nx => ∀ i, nx i S = some ws[i]?
section
variable {g : GM} {m : SS} {s : Env'} {S : Store} {ws : List W} {w : W} {it : ItW}
theorem forL_ev (J : List W → Env' → Store → Prop) (step : ∀ w r s S, J (w :: r) s S → Ev (g w s S) fun s1 S1 => Ev (m s1 S1) fun p S2 => p.1 = .nx ∧ J r p.2 S2) :
    ∀ (ws : List W) (s : Env') (S : Store), J ws s S → Ev (mForL g m ws s S) fun p S' => p.1 = .nx ∧ J [] p.2 S'
  | [], s, S, h => Ev.ok ⟨rfl, h⟩
  | w :: r, s, S, h => by
    show Ev ((g w s S).bind fun s1 S1 => (m s1 S1).bind fun p S2 => _) _
    rw [ev_bind]
    refine (step w r s S h).mono fun s1 S1 h1 => ?_
    rw [ev_bind]
    refine h1.mono fun p S2 ⟨h2, h3⟩ => ?_
    obtain ⟨f, s2⟩ := p
    cases h2
    exact forL_ev J step r s2 S2 h3
end
section
variable {g : GM} {t : SM Bool} {e : SM W} {s0 : Env'} {S : Store} {ws : List W} {w : W} {it : ItW}
theorem lcN_ev (I : List W → List W → Store → Prop) {l : Nat → Store → Option (Option W)} (hl : ∀ r acc S, I r acc S → ∀ i, l i S = some ws[i]?) (step : ∀ w r acc S, I (w :: r) acc S → Ev (mLcT g t e s0 w acc S) fun acc' S' => I r acc' S') :
    ∀ (n i : Nat) (acc : List W) (S : Store), ws.length - i < n → I (ws.drop i) acc S → Ev (mLcN g t e s0 l n i acc S) fun acc' S' => I [] acc' S'
  | 0, i, acc, S, hn, _ => absurd hn (Nat.not_lt_zero _)
  | n + 1, i, acc, S, hn, h => by
    have e1 := hl _ _ _ h i
    unfold mLcN
    simp only [e1]
    cases e2 : ws[i]? with
    | none =>
      have : ws.drop i = [] := List.drop_eq_nil_of_le (by rw [List.getElem?_eq_none_iff] at e2; exact e2)
      rw [this] at h
      exact Ev.ok h
    | some w =>
      obtain ⟨hi, rfl⟩ := List.getElem?_eq_some_iff.mp e2
      rw [List.drop_eq_getElem_cons hi] at h
      show Ev ((mLcT g t e s0 ws[i] acc S).bind fun acc S => _) _
      rw [ev_bind]
      exact (step _ _ acc S h).mono fun acc' S' q => lcN_ev I hl step n (i + 1) acc' S' (by omega) q
theorem lcI_ev (I : List W → List W → Store → Prop) (hit : ∀ r acc S, I r acc S → Items S it ws) (hn : ws.length < turns) (step : ∀ w r acc S, I (w :: r) acc S → Ev (mLcT g t e s0 w acc S) fun acc' S' => I r acc' S')
    (h : I ws [] S) : Ev (mLcI it g t e s0 S) fun acc' S' => I [] acc' S' := by
  cases it with
  | fix us =>
    cases (hit _ _ _ h : us = ws)
    exact lcL_ev I step _ _ S h
  | gen l => exact lcN_ev I hit step turns 0 [] S (by omega) (by rw [List.drop_zero]; exact h)
/-- where nothing is changed: those with p, by f -/
theorem lcI_fp (p : W → Bool) (f : W → W) (hit : Items S it ws) (hn : ws.length < turns) (h : ∀ w, w ∈ ws → ∃ s1, g w s0 S = .ok s1 S ∧ t s1 S = .ok (p w) S ∧ (p w = true → e s1 S = .ok (f w) S)) :
    mLcI it g t e s0 S = .ok ((ws.filter p).map f) S := by
  refine Ev.eq ((lcI_ev (ws := ws) (fun r acc T => T = S ∧ (∀ w, w ∈ r → w ∈ ws) ∧ acc.length + r.length ≤ ws.length ∧ acc ++ (r.filter p).map f = (ws.filter p).map f) (fun r acc T q => by rw [q.1]; exact hit) hn ?_ ⟨rfl, fun _ h => h, by simp, rfl⟩).mono ?_)
  · rintro w r acc T ⟨rfl, h1, h2, h3⟩
    obtain ⟨s1, e1, e2, e3⟩ := h w (h1 w List.mem_cons_self)
    rw [List.length_cons] at h2
    have ht : turns = 100000 := rfl
    have hl : lim = 16777216 := rfl
    rw [mLcT_eq, e1, nox_ok, ok_bind, e2, nox_ok, ok_bind]
    cases hp : p w with
    | false =>
      rw [if_neg Bool.false_ne_true]
      rw [List.filter_cons, hp] at h3
      exact Ev.ok ⟨rfl, fun u m => h1 u (List.mem_cons_of_mem _ m), by omega, by simpa using h3⟩
    | true =>
      rw [if_pos rfl, e3 hp, nox_ok, ok_bind, if_pos (by omega)]
      rw [List.filter_cons, hp] at h3
      exact Ev.ok ⟨rfl, fun u m => h1 u (List.mem_cons_of_mem _ m), by rw [List.length_append, List.length_singleton]; omega, by simpa using h3⟩
  · rintro acc T ⟨rfl, _, _, h3⟩
    exact ⟨by simpa using h3, rfl⟩
end
/-! ### in -/
end RL
end
section
set_option maxRecDepth 100000
set_option maxHeartbeats 4000000
namespace RL
open PySem PySem.Spec L2 OrdX
open PyProof.Rows hiding St
variable [Lams]
/-! ### dicts -/
noncomputable def keyW : W → Option Key
  | .str x => some (.inr x)
  | .int i => some (.inl i)
  | _ => none
noncomputable def wKey : Key → W
  | .inl i => .int i
  | .inr x => .str x
noncomputable abbrev KW := List (Key × W)
noncomputable def valW (kws : KW) (k : Key) : Option W := (kws.find? fun kv => decide (kv.1 = k)).map (·.2)
noncomputable def putW (kws : KW) (k : Key) (w : W) : KW := if (kws.any fun kv => decide (kv.1 = k)) = true then kws.map (fun kv => if kv.1 = k then (kv.1, w) else kv) else kws ++ [(k, w)]
noncomputable def mergeW (kws more : KW) : KW := more.foldl (fun acc kv => putW acc kv.1 kv.2) kws
noncomputable def dicO (kws : KW) : Ob := .dic (kws.map (·.1)) (kws.map (·.2))
noncomputable def dicT (kws : KW) : W := .dic (kws.map (·.1)) (kws.map (·.2))
/-- the dict of the store at place l -/
noncomputable def dicL (S : Store) (l : Nat) : Option KW := match S[l]? with
  | some (.dic ks ws) => if ks.length = ws.length then some (ks.zip ws) else none
  | _ => none
/-- the dict that a value is -/
noncomputable def dicAt (S : Store) : W → Option KW
  | .dic ks ws => if ks.length = ws.length then some (ks.zip ws) else none
  | .ref l => dicL S l
  | _ => none
section
variable (K : PySem.W.Frag) (mg : Str → Option Value) (ρ : RT) (H : Hp)
inductive RKW : KW → List (Key × V) → Prop where
  | nil : RKW [] []
  | cons {k : Key} {w : W} {v : V} {kws : KW} {kvs : List (Key × V)} (r : RW K mg ρ H w v) (t : RKW kws kvs) : RKW ((k, w) :: kws) ((k, v) :: kvs)
end
section
variable {K : PySem.W.Frag} {mg : Str → Option Value} {ρ ρ' : RT} {H H' : Hp} {S : Store}
theorem zip_unzip {α β : Type} : ∀ l : List (α × β), (l.map (·.1)).zip (l.map (·.2)) = l
  | [] => rfl
  | p :: l => by rw [List.map_cons, List.map_cons, List.zip_cons_cons, zip_unzip l]
theorem map1_zip {α β : Type} : ∀ {a : List α} {b : List β}, a.length = b.length → (a.zip b).map (·.1) = a
  | [], _, _ => by simp
  | x :: a, y :: b, h => by simp [map1_zip (a := a) (b := b) (by simpa using h)]
theorem map2_zip {α β : Type} : ∀ {a : List α} {b : List β}, a.length = b.length → (a.zip b).map (·.2) = b
  | [], [], _ => rfl
  | x :: a, y :: b, h => by simp [map2_zip (a := a) (b := b) (by simpa using h)]
theorem rkw_zip : ∀ {ks : List Key} {ws : List W} {vs : List V}, RWs K mg ρ H ws vs → RKW K mg ρ H (ks.zip ws) (ks.zip vs)
  | [], _, _, _ => by simp; exact .nil
  | k :: ks, _, _, .nil => by simp; exact .nil
  | k :: ks, _, _, .cons r t => .cons r (rkw_zip t)
theorem RKW.rws : ∀ {kws : KW} {kvs : List (Key × V)}, RKW K mg ρ H kws kvs → RWs K mg ρ H (kws.map (·.2)) (kvs.map (·.2))
  | _, _, .nil => .nil
  | _, _, .cons r t => .cons r t.rws
theorem RKW.keys : ∀ {kws : KW} {kvs : List (Key × V)}, RKW K mg ρ H kws kvs → kws.map (·.1) = kvs.map (·.1)
  | _, _, .nil => rfl
  | _, _, .cons r t => by rw [List.map_cons, List.map_cons, t.keys]
theorem RKW.len {kws : KW} {kvs : List (Key × V)} (r : RKW K mg ρ H kws kvs) : kws.length = kvs.length := by
  have := congrArg List.length r.keys
  simpa using this
theorem RKW.ext (e : Ext ρ H ρ' H') : ∀ {kws : KW} {kvs : List (Key × V)}, RKW K mg ρ H kws kvs → RKW K mg ρ' H' kws kvs
  | _, _, .nil => .nil
  | _, _, .cons r t => .cons (r.ext e) (t.ext e)
theorem RKW.map (f : ∀ {w : W} {v : V}, RW K mg ρ H w v → RW K mg ρ' H' w v) : ∀ {kws : KW} {kvs : List (Key × V)}, RKW K mg ρ H kws kvs → RKW K mg ρ' H' kws kvs
  | _, _, .nil => .nil
  | _, _, .cons r t => .cons (f r) (t.map f)
theorem RKW.val {k : Key} : ∀ {kws : KW} {kvs : List (Key × V)}, RKW K mg ρ H kws kvs → (valW kws k = none ∧ valV kvs k = none) ∨ ∃ w v, valW kws k = some w ∧ valV kvs k = some v ∧ RW K mg ρ H w v
  | _, _, .nil => .inl ⟨rfl, rfl⟩
  | _, _, .cons (k := j) (w := w) (v := v) (kws := kws) (kvs := kvs) r t => by
    by_cases h : j = k
    · exact .inr ⟨w, v, by simp [valW, h], by simp [valV, h], r⟩
    · have e1 : valW ((j, w) :: kws) k = valW kws k := by simp [valW, List.find?_cons, h]
      have e2 : valV ((j, v) :: kvs) k = valV kvs k := by simp [valV, List.find?_cons, h]
      rw [e1, e2]
      exact t.val
theorem RKW.any {k : Key} : ∀ {kws : KW} {kvs : List (Key × V)}, RKW K mg ρ H kws kvs → (kws.any fun kv => decide (kv.1 = k)) = kvs.any fun kv => decide (kv.1 = k)
  | _, _, .nil => rfl
  | _, _, .cons r t => by rw [List.any_cons, List.any_cons, t.any]
theorem RKW.snoc {k : Key} {w : W} {v : V} (q : RW K mg ρ H w v) : ∀ {kws : KW} {kvs : List (Key × V)}, RKW K mg ρ H kws kvs → RKW K mg ρ H (kws ++ [(k, w)]) (kvs ++ [(k, v)])
  | _, _, .nil => .cons q .nil
  | _, _, .cons r t => .cons r (t.snoc q)
theorem RKW.repl {k : Key} {w : W} {v : V} (q : RW K mg ρ H w v) : ∀ {kws : KW} {kvs : List (Key × V)}, RKW K mg ρ H kws kvs → RKW K mg ρ H (kws.map fun kv => if kv.1 = k then (kv.1, w) else kv) (kvs.map fun kv => if kv.1 = k then (kv.1, v) else kv)
  | _, _, .nil => .nil
  | _, _, .cons (k := j) r t => by
    rw [List.map_cons, List.map_cons]
    by_cases h : j = k
    · simp only [h, if_true]; exact .cons q (by simpa using t.repl q)
    · simp only [h, if_false]; exact .cons r (by simpa using t.repl q)
theorem RKW.put {k : Key} {w : W} {v : V} {kws : KW} {kvs : List (Key × V)} (r : RKW K mg ρ H kws kvs) (q : RW K mg ρ H w v) : RKW K mg ρ H (putW kws k w) (putK kvs k v) := by
  unfold putW putK
  rw [r.any]
  split
  · exact r.repl q
  · exact r.snoc q
theorem RKW.merge : ∀ {more : KW} {mvs : List (Key × V)} {kws : KW} {kvs : List (Key × V)}, RKW K mg ρ H more mvs → RKW K mg ρ H kws kvs → RKW K mg ρ H (mergeW kws more) (mergeK kvs mvs)
  | _, _, _, _, .nil, h => h
  | _, _, _, _, .cons (k := k) (w := w) (v := v) (kws := more) (kvs := mvs) r t, h => by
    have := RKW.merge t (h.put (k := k) r)
    exact this
theorem keyW_of {w : W} {x : V} {k : Key} (r : RW K mg ρ H w x) (h : keyW w = some k) : x = kV k := by
  cases w with
  | str y => cases h; cases r; rfl
  | int i => cases h; cases r; rfl
  | _ => cases h
theorem wKey_rw (k : Key) : RW K mg ρ H (wKey k) (kV k) := by
  cases k with
  | inl i => exact .int i
  | inr x => exact .str x
theorem dicAt_of {w : W} {x : V} {kws : KW} (rep : RepS K mg ρ H S) (r : RW K mg ρ H w x) (h : dicAt S w = some kws) : ∃ a kvs, x = .ref a ∧ H a = some (.dK kvs) ∧ RKW K mg ρ H kws kvs := by
  cases w with
  | dic ks ws =>
    have h : (if ks.length = ws.length then some (ks.zip ws) else none) = some kws := h
    split at h
    · cases h
      cases r with | dic hf hl hr => exact ⟨_, _, rfl, hf.1, rkw_zip hr⟩
    · cases h
  | ref l =>
    cases r with
    | @ref l p hl =>
      have h : dicL S l = some kws := h
      unfold dicL at h
      cases e : S[l]? with
      | none => rw [e] at h; cases h
      | some ob =>
        rw [e] at h
        cases ob with
        | dic ks ws =>
          have h : (if ks.length = ws.length then some (ks.zip ws) else none) = some kws := h
          split at h
          · cases h
            obtain ⟨a, h1, h2⟩ := rep.ob l _ e
            rw [hl] at h1; cases h1
            cases h2 with | dic h3 h4 h5 => exact ⟨_, _, rfl, h3, rkw_zip h5⟩
          · cases h
        | _ => cases h
  | _ => cases h
theorem ro_dic {a : Addr} {kws : KW} {kvs : List (Key × V)} (h : H a = some (.dK kvs)) (r : RKW K mg ρ H kws kvs) : RO K mg ρ H a (dicO kws) := by
  refine .dic (ks := kws.map (·.1)) (vs := kvs.map (·.2)) ?_ ?_ r.rws
  · rw [r.keys, zip_unzip]; exact h
  · rw [List.length_map, List.length_map]; exact r.len
theorem rw_dic {a : Addr} {kws : KW} {kvs : List (Key × V)} (h : Fx ρ H a (.dK kvs)) (r : RKW K mg ρ H kws kvs) : RW K mg ρ H (dicT kws) (.ref a) := by
  refine .dic (ks := kws.map (·.1)) (vs := kvs.map (·.2)) ?_ ?_ r.rws
  · rw [r.keys, zip_unzip]; exact h
  · rw [List.length_map, List.length_map]; exact r.len
end
noncomputable def gDGet (d k : W) (S : Store) : Res W := match dicAt S d, keyW k with
  | some kws, some k => match valW kws k with
    | some w => .ok w S
    | none => .bad
  | _, _ => .bad
/-- d.get(k, x) -/
noncomputable def gDGet2 (d k x : W) (S : Store) : Res W := match dicAt S d, keyW k with
  | some kws, some k => .ok ((valW kws k).getD x) S
  | _, _ => .bad
noncomputable def mDGet2 (md mk mx : SM W) : SM W := fun s S => (md s S).bind fun d S1 => match dicAt S1 d with
  | some _ => (mk s S1).bind fun k S2 => (mx s S2).bind fun x S3 => gDGet2 d k x S3
  | none => .bad
noncomputable def gDPut (d k v : W) (S : Store) : Res Unit := match d, keyW k with
  | .ref l, some k => match dicL S l with
    | some kws => if kws.length < lim then .ok () (S.set l (dicO (putW kws k v))) else .bad
    | none => .bad
  | _, _ => .bad
noncomputable def mDPut (md mk mv : SM W) : SS := fun s S => (mv s S).bind fun v S1 => (md s S1).bind fun d S2 => (mk s S2).bind fun k S3 => (gDPut d k v S3).bind fun _ S4 => .ok (.nx, s) S4
/-- {} that will be changed -/
noncomputable def mDNewR : SM W := fun _ S => .ok (.ref S.length) (S ++ [dicO []])
section
variable {X : Cx} {E : EK} {pos pos' apos cpos : Pos} {o i e f value : Expr} {md mk mv mx : SM W}
theorem pm_dget (hu : X.A.units + 1 < cLine) (ho : PM X E o md) (hi : PM X E i mk) (hs : NoSl i := by exact fun _ _ => rfl) : PM X E (.Subscript o i pos) (mBin gDGet md mk) :=
  pe_imp (pe_dget hu ho hi hs) fun σ H Q h => tX.bind h fun ρ1 H1 w x s S1 rep env r out => ⟨ρ1, s, S1, rep, env, Out.bind out fun ρ2 H2 w2 x2 S2 e2 rep2 r2 o2 => by
    unfold gDGet at o2
    cases e1 : dicAt S2 w with
    | none => rw [e1] at o2; exact o2.elim
    | some kws =>
      cases e3 : keyW w2 with
      | none => rw [e1, e3] at o2; exact o2.elim
      | some k =>
        rw [e1, e3] at o2
        obtain ⟨a, kvs, rfl, ha, rk⟩ := dicAt_of rep2 (r.ext e2) e1
        have := keyW_of r2 e3
        subst this
        rcases rk.val (k := k) with ⟨h1, _⟩ | ⟨w', v', h1, h2, h3⟩
        · simp only [h1] at o2; exact o2.elim
        · simp only [h1] at o2
          exact ⟨a, v', rfl, by have := DGet.k (k := k) ha; rw [h2] at this; exact this, Out.here o2 rep2 h3⟩⟩
theorem pm_dget2 (hu : X.A.units + 1 < cLine) (ho : PM X E o md) (he : PM X E e mk) (hf : PM X E f mx) (m : M2 X o "get" apos e f cpos := by exact ⟨rfl, rfl, rfl, rfl⟩) : PM X E (.Call (.Attribute o "get" apos) [e, f] [] cpos) (mDGet2 md mk mx) :=
  pe_imp (pe_dget2 hu ho he hf m) fun σ H Q h => tX.bind h fun ρ1 H1 w x s S1 rep env r out => by
    cases e1 : dicAt S1 w with
    | none => rw [e1] at out; exact out.elim
    | some kws0 =>
      rw [e1] at out
      obtain ⟨a, kvs0, rfl, ha0, _⟩ := dicAt_of rep r e1
      refine ⟨a, rfl, .inl ⟨kvs0, .inl ha0⟩, ρ1, s, S1, rep, env, Out.bind out fun ρ2 H2 w2 x2 S2 e2 rep2 r2 o2 => ⟨ρ2, s, S2, rep2, env.ext e2, Out.bind o2 fun ρ3 H3 w3 x3 S3 e3 rep3 r3 o3 => ?_⟩⟩
      unfold gDGet2 at o3
      cases e4 : dicAt S3 w with
      | none => rw [e4] at o3; exact o3.elim
      | some kws =>
        cases e5 : keyW w2 with
        | none => rw [e4, e5] at o3; exact o3.elim
        | some k =>
          rw [e4, e5] at o3
          obtain ⟨a', kvs, ea, ha, rk⟩ := dicAt_of rep3 ((r.ext e2).ext e3) e4
          cases ea
          have := keyW_of r2 e5
          subst this
          rcases rk.val (k := k) with ⟨h1, h2⟩ | ⟨w', v', h1, h2, h3⟩
          · simp only [h1, Option.getD_none] at o3
            exact ⟨none, by have := DGet.k (k := k) ha; rw [h2] at this; exact this, Out.here o3 rep3 r3⟩
          · simp only [h1, Option.getD_some] at o3
            exact ⟨some v', by have := DGet.k (k := k) ha; rw [h2] at this; exact this, Out.here o3 rep3 h3⟩
theorem pm_dnewR : PM X E (.Dict [] [] pos) mDNewR := pe_imp pe_dnewK fun σ H Q ⟨ρ, s, S, rep, env, out⟩ p hp => out_new (u := dicO []) out rep hp fun e => ro_dic upd_same .nil
end
/-! ### d.update(e), list(d), dict(pairs) -/
noncomputable def rDUpd : V → List V → Hp → VK → Prop := fun x xs H Q => ∃ (a b : Addr) (kvs mvs : List (Key × V)), x = .ref a ∧ xs = [.ref b] ∧ a ≠ b ∧ H a = some (.dK kvs) ∧ H b = some (.dK mvs) ∧ kvs.length + mvs.length ≤ sizeLine ∧ Q .non (upd H a (.dK (mergeK kvs mvs)))
theorem mt_dupd {X : Cx} : MtR X "dict.update" rDUpd := by
  intro pins s σ H x xs v us Q I rx rxs ⟨a, b, kvs, mvs, ex, exs, hne, ha, hb, hz, q⟩
  subst ex exs
  cases rx
  rw [Vals.ref1 rxs]
  obtain ⟨z, lo, vs, rel, dd⟩ := dk_of I.hok ha
  obtain ⟨z2, lo2, vs2, rel2, dd2⟩ := dk_of I.hok hb
  refine call_meetsIn PySem.F.slot_dict_update dd.typeIs PySem.F.entry_dict_update (PySem.F.args_dict_update_2 _ _) (meets_dict_update (mixKind X.prog X.w) a b hne lo2)
    ⟨vs, vs2, dd, dd2, by rw [← rel.length, ← rel2.length]; exact hz, fun h' hm _ hs => ?_⟩
  have he : ∃ q, h'.get? a = some q := let ⟨q, _, _, hq, _⟩ := hm; ⟨q, hq⟩
  have hlen : (mergeK kvs mvs).length ≤ sizeLine := Nat.le_trans (length_mergeK mvs kvs) hz
  exact ⟨.non, _, d_write (t' := s.toks) I (by rw [ha]; exact True.intro) hs he (dk_new hlen lo (KV.merge rel2 rel) hm), rfl, q⟩
noncomputable def isRefTo (l : Nat) : W → Bool
  | .ref k => k == l
  | _ => false
noncomputable def gDUpd (o : W) (ws : List W) (S : Store) : Res W := match o, ws with
  | .ref l, [w] => match dicL S l, dicAt S w with
    | some kws, some more => if isRefTo l w = false ∧ kws.length + more.length ≤ lim then .ok .non (S.set l (dicO (mergeW kws more))) else .bad
    | _, _ => .bad
  | _, _ => .bad
/-- it stands as a dict before the arguments are read -/
noncomputable def gMetD (g : W → List W → Store → Res W) (mo : SM W) (mr : SM (List W)) : SM W := fun s S => (mo s S).bind fun o S1 => match dicAt S1 o with
  | some _ => (mr s S1).bind fun ws S2 => g o ws S2
  | none => .bad
section
variable {K : PySem.W.Frag} {mg : Str → Option Value} {ρ : RT} {H : Hp} {S : Store}
/-- a dict of the store and another one stand apart -/
theorem dic_apart {l : Nat} {w : W} {p b : Addr} {kws : KW} (rep : RepS K mg ρ H S) (hl : ρ.r[l]? = some p) (r : RW K mg ρ H w (.ref b)) (h : dicAt S w = some kws) (hn : isRefTo l w = false) : p ≠ b := by
  intro e
  subst e
  cases w with
  | dic ks ws => cases r with | dic hf _ _ => exact hf.2.1 (List.mem_of_getElem? hl)
  | ref k =>
    cases r with
    | ref hk =>
      obtain ⟨i1, e1⟩ := List.getElem?_eq_some_iff.mp hl
      obtain ⟨i2, e2⟩ := List.getElem?_eq_some_iff.mp hk
      have := (List.getElem_inj rep.nd).mp (e1.trans e2.symm)
      subst this
      simp [isRefTo] at hn
  | _ => cases h
end
section
variable {X : Cx} {E : EK} {o e : Expr} {es : List Expr} {mo : SM W} {mr : SM (List W)} {apos cpos : Pos}
theorem pm_dupd (ho : PM X E o mo) (ha : PAM X E (e :: es) mr)
    (hbase : attributeBase o "update" X.env (eval o X.env) = eval o X.env := by rfl)
    (hfew : ((backTo cpos (starEach (e :: es) X.env)).all (fun x => !x.1) && (backToKw cpos (keywordEach [] X.env)).all (fun x => x.1.isSome)
      && decide ((e :: es).length + ([] : List Keyword).length + (if ([] : List Keyword).isEmpty then 0 else 1) < 30)) = true := by rfl)
    (hline : (apos.endLine == cpos.line) = true := by rfl) (hs : starEach (e :: es) X.env = (false, eval e X.env) :: starEach es X.env := by rfl) (hplain : (backTo cpos (starEach es X.env)).any (·.1) = false := by rfl) :
    PM X E (.Call (.Attribute o "update" apos) (e :: es) [] cpos) (gMetD gDUpd mo mr) := by
  refine pe_imp (pe_bm PySem.F.plainAttrs_dict PySem.F.slot_dict_update PySem.F.type_dict_update mt_dupd ho ha hbase hfew hline hs hplain) fun σ H Q h => tX.bind h fun ρ1 H1 w x s S1 rep env rx out => ?_
  cases e1 : dicAt S1 w with
  | none => rw [e1] at out; exact out.elim
  | some kws0 =>
    rw [e1] at out
    obtain ⟨a, kvs0, rfl, ha0, _⟩ := dicAt_of rep rx e1
    refine ⟨.inr (.inr (.inl ⟨rfl, .inl ⟨kvs0, ha0⟩⟩)), ρ1, s, S1, rep, env, Out.bind out fun ρ2 H2 ws xs S2 e2 rep2 r2 o2 => ?_⟩
    have rx2 := rx.ext e2
    cases w with
    | ref l =>
      match ws, r2, o2 with
      | [], _, o2 => exact o2.elim
      | _ :: _ :: _, _, o2 => exact o2.elim
      | [u], r2, o2 =>
        obtain ⟨y, rfl, ru⟩ := r2.one
        dsimp only [gDUpd] at o2
        cases e4 : dicL S2 l with
        | none => simp only [e4] at o2; exact o2.elim
        | some kws =>
          cases e5 : dicAt S2 u with
          | none => simp only [e4, e5] at o2; exact o2.elim
          | some more =>
            simp only [e4, e5] at o2
            split at o2
            · rename_i hz
              obtain ⟨a', kvs, ea, ha, rk⟩ := dicAt_of (w := .ref l) rep2 rx2 e4
              cases ea
              obtain ⟨b, mvs, rfl, hb, rm⟩ := dicAt_of rep2 ru e5
              cases rx2 with
              | ref hl =>
                have hne := dic_apart rep2 hl ru e5 hz.1
                refine ⟨a, b, kvs, mvs, rfl, rfl, hne, ha, hb, by rw [← rk.len, ← rm.len]; exact lim_line hz.2, ?_⟩
                have ma : a ∈ ρ2.r := List.mem_of_getElem? hl
                have ex : Ext ρ2 H2 ρ2 (upd H2 a (.dK (mergeK kvs mvs))) := ⟨fun _ _ h => h, fun _ h => h, fun _ h => .inl h, fun b u hb n => by rw [upd_ne fun z : b = a => n (by rw [z]; exact ma)]; exact hb, fun _ h => .inl h, fun b _ hb => by
                  by_cases hz : b = a
                  · subst hz; rw [upd_same]; simp
                  · rw [upd_ne hz]; exact hb, rfl⟩
                obtain ⟨e6, rep6⟩ := rep2.wr hl (o := .dK (mergeK kvs mvs)) (u := dicO (mergeW kws more)) (ro_dic upd_same ((RKW.merge rm rk).ext ex))
                exact o2 ρ2 _ _ e6 rep6 .non
            · exact o2.elim
    | _ => exact o2.elim
/-- list(d), list(xs), list(t) -/
noncomputable def gListD (w : W) (S : Store) : Res W := match seqA S w with
  | some ws => .ok (.lst ws) S
  | none => match dicAt S w with
    | some kws => .ok (.lst (kws.map fun kv => wKey kv.1)) S
    | none => .bad
theorem keys_rws {K : PySem.W.Frag} {mg : Str → Option Value} {ρ : RT} {H : Hp} : ∀ {kws : KW} {kvs : List (Key × V)}, RKW K mg ρ H kws kvs → RWs K mg ρ H (kws.map fun kv => wKey kv.1) (kvs.map fun kv => kV kv.1)
  | _, _, .nil => .nil
  | _, _, .cons (k := k) r t => .cons (wKey_rw k) (keys_rws t)
theorem cm_listD (hc : X.calm = true) : CallM X E (.type "list") (g1 gListD) := cm1 fun pins s σ H x us Q ρ S w I r rep rw o => by
  unfold gListD at o
  cases e : seqA S w with
  | some ws =>
    rw [e] at o
    obtain ⟨a, vs, rfl, hl, hr, _⟩ := seqA_of rep rw e
    exact call_list_of pins s σ H _ us Q I r ⟨a, vs, rfl, hl, fun p hp => out_lst o rep hp hr⟩
  | none =>
    rw [e] at o
    cases e1 : dicAt S w with
    | none => rw [e1] at o; exact o.elim
    | some kws =>
      rw [e1] at o
      obtain ⟨a, kvs, rfl, ha, rk⟩ := dicAt_of rep rw e1
      exact call_listD hc pins s σ H _ us Q I r ⟨a, kvs, rfl, .inl ha, fun p hp => out_lst o rep hp (keys_rws rk)⟩
end
/-! ### displays -/
noncomputable abbrev RPr (K : PySem.W.Frag) (mg : Str → Option Value) : Rl (List (V × V)) (List (W × W)) := fun ρ H ws vs => RWs K mg ρ H (ws.map (·.1)) (vs.map (·.1)) ∧ RWs K mg ρ H (ws.map (·.2)) (vs.map (·.2))
noncomputable def PPsM (X : Cx) (E : EK) (pos : Pos) (keys : List (Option Expr)) (values : List Expr) (m : SM (List (W × W))) : Prop := ∃ trs, PPs X pos keys values trs ∧ ∀ σ H Q, tX X.K X.mg (RPr X.K X.mg) E m σ H Q → tPairs trs σ H Q
noncomputable def mPNil : SM (List (W × W)) := fun _ S => .ok [] S
noncomputable def mPCons (mk mv : SM W) (mr : SM (List (W × W))) : SM (List (W × W)) := fun s S => (mk s S).bind fun k S1 => (mv s S1).bind fun v S2 => (mr s S2).bind fun r S3 => .ok ((k, v) :: r) S3
noncomputable def kwsOf : List (W × W) → Option KW
  | [] => some []
  | (k, v) :: r => match keyW k, kwsOf r with
    | some k, some ks => some ((k, v) :: ks)
    | _, _ => none
noncomputable def gDisp (ps : List (W × W)) (S : Store) : Res W := match kwsOf ps with
  | some kws => if kws.length ≤ 15 then .ok (dicT (mergeW [] kws)) S else .bad
  | none => .bad
noncomputable def mDisp (m : SM (List (W × W))) : SM W := fun s S => (m s S).bind gDisp
section
variable {X : Cx} {E : EK} {pos : Pos} {k v : Expr} {keys : List (Option Expr)} {values : List Expr} {mk mv : SM W} {mr : SM (List (W × W))}
theorem ppm_nil : PPsM X E pos [] [] mPNil := ⟨[], pps_nil, fun σ H Q ⟨ρ, s, S, rep, env, o⟩ => Out.here o rep ⟨.nil, .nil⟩⟩
theorem ppm_cons (hk : PM X E k mk) (hv : PM X E v mv) (hr : PPsM X E pos keys values mr) : PPsM X E pos (some k :: keys) (v :: values) (mPCons mk mv mr) := by
  obtain ⟨trs, h1, h2⟩ := hr
  refine ⟨_, pps_cons hk hv h1, fun σ H Q h => ?_⟩
  show tE X E mk σ H fun _ _ => _
  refine tX.bind (R' := RPr X.K X.mg) h fun ρ1 H1 w x s S1 rep env r out => ?_
  refine ⟨ρ1, s, S1, rep, env, Out.bind out fun ρ2 H2 w2 x2 S2 e2 rep2 r2 o2 => ?_⟩
  refine h2 _ _ _ ⟨ρ2, s, S2, rep2, env.ext e2, Out.bind o2 fun ρ3 H3 ws vs S3 e3 rep3 r3 o3 => ?_⟩
  exact Out.here o3 rep3 ⟨.cons ((r.ext e2).ext e3) r3.1, .cons (r2.ext e3) r3.2⟩
theorem kwsOf_of {K : PySem.W.Frag} {mg : Str → Option Value} {ρ : RT} {H : Hp} : ∀ {ps : List (W × W)} {vs : List (V × V)} {kws : KW}, RWs K mg ρ H (ps.map (·.1)) (vs.map (·.1)) → RWs K mg ρ H (ps.map (·.2)) (vs.map (·.2)) → kwsOf ps = some kws → ∃ kvs : List (Key × V), vs = kvs.map (fun kv => (kV kv.1, kv.2)) ∧ RKW K mg ρ H kws kvs
  | [], [], kws, _, _, h => by cases (Option.some.inj h : [] = kws); exact ⟨[], rfl, .nil⟩
  | [], _ :: _, _, r, _, _ => by simp at r; cases r
  | _ :: _, [], _, r, _, _ => by simp at r; cases r
  | (k, w) :: ps, (y, v) :: vs, kws, r1, r2, h => by
    rw [List.map_cons, List.map_cons] at r1 r2
    cases r1 with
    | cons a1 t1 =>
      cases r2 with
      | cons a2 t2 =>
        unfold kwsOf at h
        cases e1 : keyW k with
        | none => rw [e1] at h; cases h
        | some k' =>
          cases e2 : kwsOf ps with
          | none => rw [e1, e2] at h; cases h
          | some ks =>
            rw [e1, e2] at h
            cases Option.some.inj h
            obtain ⟨kvs, rfl, rk⟩ := kwsOf_of t1 t2 e2
            have : y = kV k' := keyW_of a1 e1
            subst this
            exact ⟨(k', v) :: kvs, rfl, .cons a2 rk⟩
/-- {k: v, ..} -/
theorem pm_disp (h : PPsM X E pos keys values mr) (hall : keys.all (·.isSome) = true := by rfl) (hl : keys.length = values.length := by rfl) (h0 : keys ≠ [] := by exact fun z => by cases z) (h15 : keys.length ≤ 15 := by decide) : PM X E (.Dict keys values pos) (mDisp mr) := by
  obtain ⟨trs, h1, h2⟩ := h
  refine pe_imp (pe_disp h1 hall hl h0 h15) fun σ H Q ⟨ρ, s, S, rep, env, out⟩ p hp => ?_
  obtain ⟨e0, rep0⟩ := rep.more (o := .dK []) hp
  have np := rep.fresh hp
  refine h2 _ _ _ ⟨⟨ρ.r, p :: ρ.t, ρ.ce⟩, s, S, rep0, env.ext e0, ?_⟩
  unfold mDisp at out
  cases em : mr s S with
  | bad => rw [em] at out; exact out.elim
  | exc c ns ws S1 => rw [em] at out; exact ExcOut.ext e0 out
  | ok ps S1 =>
    rw [em] at out
    intro ρ1 H1 vs e1 rep1 r1
    have out : Out X.K X.mg (RW X.K X.mg) E ρ H (gDisp ps S1) Q := out
    unfold gDisp at out
    cases ek : kwsOf ps with
    | none => rw [ek] at out; exact out.elim
    | some kws =>
      rw [ek] at out
      dsimp only at out
      split at out
      · rename_i hz
        obtain ⟨kvs, rfl, rk⟩ := kwsOf_of r1.1 r1.2 ek
        have hd : H1 p = some (.dK []) := e1.keep p _ upd_same np.1
        have hpt : p ∈ ρ1.t := e1.sub p List.mem_cons_self
        have hsub : ∀ b, b ∈ ρ.t → b ∈ ρ1.t := fun b m => e1.sub b (List.mem_cons_of_mem _ m)
        have nr : p ∉ ρ1.r := (rep1.tk p hpt).2
        refine ⟨hd, kvs, rfl, by rw [← rk.len]; exact hz, ?_⟩
        have e01 := e0.trans e1
        have rep2 : RepS X.K X.mg ⟨ρ1.r, ρ.t, ρ1.ce⟩ (upd H1 p (.dK (mergeK [] kvs))) S1 := (rep1.flux hpt).less hsub
        have rk2 : RKW X.K X.mg ⟨ρ1.r, ρ.t, ρ1.ce⟩ (upd H1 p (.dK (mergeK [] kvs))) kws kvs := rk.map fun r => (r.flux hpt).less hsub
        exact out ⟨ρ1.r, ρ.t, ρ1.ce⟩ _ (.ref p) ⟨e01.pre, fun _ h => h, fun _ h => .inl h, fun b o hb n => by rw [upd_ne (ne_of_none hb hp)]; exact e01.keep b o hb n, e01.new, fun b m hb => by
          by_cases z : b = p
          · subst z; rw [upd_same]; simp
          · rw [upd_ne z]; exact e01.still b m hb, e01.ce⟩ rep2 (rw_dic ⟨upd_same, nr, np.2⟩ (RKW.merge rk2 .nil))
      · exact out.elim
end
end RL
end
section
set_option maxRecDepth 100000
set_option maxHeartbeats 4000000
namespace OrdX
open PySem PySem.Spec PyProof.Rows
noncomputable def ltN : List Nat → List Nat → Bool
  | [], [] => false
  | [], _ :: _ => true
  | _ :: _, [] => false
  | a :: r, b :: q => decide (a < b) || (decide (a = b) && ltN r q)
theorem totN : Tot ltN where
  irr := fun a => by induction a with
    | nil => rfl
    | cons x r ih => simp [ltN, ih]
  tr := fun a b c h1 h2 => by
    induction a generalizing b c with
    | nil => cases b with
      | nil => cases h1
      | cons y q => cases c with
        | nil => cases h2
        | cons z s => rfl
    | cons x r ih => cases b with
      | nil => cases h1
      | cons y q => cases c with
        | nil => cases h2
        | cons z s =>
          simp only [ltN, Bool.or_eq_true, decide_eq_true_eq, Bool.and_eq_true] at h1 h2 ⊢
          rcases h1 with h1 | ⟨h1, h1'⟩ <;> rcases h2 with h2 | ⟨h2, h2'⟩
          · left; omega
          · left; omega
          · left; omega
          · right; exact ⟨by omega, ih q s h1' h2'⟩
  tri := fun a b h => by
    induction a generalizing b with
    | nil => cases b with
      | nil => exact absurd rfl h
      | cons y q => exact .inl rfl
    | cons x r ih => cases b with
      | nil => exact .inr rfl
      | cons y q =>
        simp only [ltN, Bool.or_eq_true, decide_eq_true_eq, Bool.and_eq_true]
        rcases Nat.lt_trichotomy x y with k | k | k
        · exact .inl (.inl k)
        · subst k
          have : r ≠ q := fun e => h (by rw [e])
          rcases ih q this with k | k
          · exact .inl (.inr ⟨rfl, k⟩)
          · exact .inr (.inr ⟨rfl, k⟩)
        · exact .inr (.inl k)
theorem ltCps_eq : ∀ a b : List Nat, ltCps a b = ltN a b
  | [], [] => rfl
  | [], _ :: _ => rfl
  | _ :: _, [] => rfl
  | a :: r, b :: q => by
    have ih := ltCps_eq r q
    simp only [ltCps, ltN, ih]
    try (by_cases h1 : a < b <;> by_cases h2 : a = b <;> simp [h1, h2] <;> omega)
noncomputable def ltS (x y : Str) : Bool := ltN x.cps.toList y.cps.toList
theorem totS : Tot ltS where
  irr := fun a => totN.irr _
  tr := fun a b c => totN.tr _ _ _
  tri := fun a b h => totN.tri _ _ fun e => h (by
    cases a; cases b
    simp only [Str.mk.injEq] at h ⊢
    exact (Array.toList_inj.mp e))
theorem sortedS_pw : ∀ {l : List Str}, sortedS l = true → l.Pairwise fun a b => ltS b a = false
  | [], _ => .nil
  | x :: r, h => by
    have h : risingS x r = true := h
    have go : ∀ (r : List Str) (x : Str), risingS x r = true → (x :: r).Pairwise fun a b => ltS b a = false := by
      intro r
      induction r with
      | nil => intro x _; exact List.pairwise_singleton _ _
      | cons y r ih =>
        intro x h
        simp only [risingS, Bool.and_eq_true, Bool.not_eq_true', ltCps_eq] at h
        have h1 : ltS y x = false := h.1
        have pw := ih y h.2
        refine List.pairwise_cons.mpr ⟨fun z hz => ?_, pw⟩
        rcases List.mem_cons.mp hz with rfl | hz
        · exact h1
        · have h2 := (List.pairwise_cons.mp pw).1 z hz
          cases e : ltS z x with
          | false => rfl
          | true =>
            by_cases hxy : y = x
            · subst hxy; rw [h2] at e; cases e
            · rcases totS.tri y x hxy with k | k
              · rw [h1] at k; cases k
              · have := totS.tr _ _ _ e k; rw [h2] at this; cases this
    exact go r x h
end OrdX
namespace RL
open PySem PySem.Spec L2 OrdX
open PyProof.Rows hiding St
variable [Lams]
/-! ### sorted(xs) of texts, max, sum -/
/-- .. that will be changed -/
noncomputable def gSrtSR (w : W) (S : Store) : Res W := match (seqL S w).bind strsW with
  | some xs => if xs.length < 64 then .ok (.ref S.length) (S ++ [.lst ((srt ltS xs).map .str)]) else .bad
  | none => .bad
noncomputable def gMax (w : W) (S : Store) : Res W := match (seqL S w).bind intsW with
  | some (n :: r) => .ok (.int (r.foldl max n)) S
  | _ => .bad
noncomputable def gSum (w : W) (S : Store) : Res W := match (seqL S w).bind intsW with
  | some ns => .ok (.int ns.sum) S
  | none => .bad
theorem foldl_max_le : ∀ (r : List Int) (n : Int), n ≤ r.foldl max n ∧ ∀ y ∈ r, y ≤ r.foldl max n
  | [], n => ⟨Int.le_refl _, nofun⟩
  | x :: r, n => by
    obtain ⟨h1, h2⟩ := foldl_max_le r (max n x)
    rw [List.foldl_cons]
    refine ⟨by omega, fun y hy => ?_⟩
    rcases List.mem_cons.mp hy with rfl | hy
    · omega
    · exact h2 y hy
theorem foldl_max_mem : ∀ (r : List Int) (n : Int), r.foldl max n ∈ n :: r
  | [], n => List.mem_cons_self
  | x :: r, n => by
    rw [List.foldl_cons]
    rcases List.mem_cons.mp (foldl_max_mem r (max n x)) with h | h
    · rcases Int.le_total n x with z | z
      · rw [h, show max n x = x by omega]; simp
      · rw [h, show max n x = n by omega]; simp
    · exact List.mem_cons_of_mem _ (List.mem_cons_of_mem _ h)
section
variable {X : Cx} {E : EK}
theorem strsW_at {K : PySem.W.Frag} {mg : Str → Option Value} {ρ : RT} {H : Hp} {S : Store} {w : W} {x : V} {xs : List Str} (rep : RepS K mg ρ H S) (r : RW K mg ρ H w x) (h : (seqL S w).bind strsW = some xs) : ∃ a, x = .ref a ∧ SqL K H a (xs.map V.str) := by
  cases e : seqL S w with
  | none => rw [e] at h; cases h
  | some ws =>
    rw [e] at h
    obtain ⟨a, vs, rfl, hl, hr⟩ := seqL_of rep r e
    rw [strsW_of hr h] at hl
    exact ⟨a, rfl, hl⟩
theorem intsW_at {K : PySem.W.Frag} {mg : Str → Option Value} {ρ : RT} {H : Hp} {S : Store} {w : W} {x : V} {ns : List Int} (rep : RepS K mg ρ H S) (r : RW K mg ρ H w x) (h : (seqL S w).bind intsW = some ns) : ∃ a, x = .ref a ∧ SqL K H a (ns.map V.int) := by
  cases e : seqL S w with
  | none => rw [e] at h; cases h
  | some ws =>
    rw [e] at h
    obtain ⟨a, vs, rfl, hl, hr⟩ := seqL_of rep r e
    have := intsW_of (show intsW ws = some ns from h)
    subst this
    rw [rws_ints hr] at hl
    exact ⟨a, rfl, hl⟩
theorem cm_srtSR : CallM X E (.builtin "sorted") (g1 gSrtSR) := cm1 fun pins s σ H x us Q ρ S w I r rep rw' o => by
  unfold gSrtSR at o
  cases e : (seqL S w).bind strsW with
  | none => rw [e] at o; exact o.elim
  | some xs =>
    rw [e] at o
    dsimp only at o
    split at o
    · rename_i hz
      obtain ⟨a, rfl, hl⟩ := strsW_at rep rw' e
      refine cr_sortedS pins s σ H _ us Q I r ⟨a, xs, rfl, hl, hz, fun ys p pm hs hp => ?_⟩
      have eq : ys = srt ltS xs := srt_eq totS pm (sortedS_pw hs)
      subst eq
      exact out_new o rep hp fun e => .lst upd_same (strs_rws _)
    · exact o.elim
theorem cm_max (hc : X.calm = true) : CallM X E (.builtin "max") (g1 gMax) := cm1 fun pins s σ H x us Q ρ S w I r rep rw' o => by
  unfold gMax at o
  cases e : (seqL S w).bind intsW with
  | none => rw [e] at o; exact o.elim
  | some ns =>
    cases ns with
    | nil => rw [e] at o; exact o.elim
    | cons n q =>
      rw [e] at o
      obtain ⟨a, rfl, hl⟩ := intsW_at rep rw' e
      refine cr_max hc pins s σ H _ us Q I r ⟨a, n :: q, rfl, hl, Nat.succ_pos _, fun m h1 h2 => ?_⟩
      have eq : m = q.foldl max n := by
        have := h2 _ (foldl_max_mem q n)
        have h3 := foldl_max_le q n
        rcases List.mem_cons.mp h1 with rfl | h1
        · omega
        · have := h3.2 m h1; omega
      subst eq
      exact Out.here o rep (.int _)
theorem cm_sum (hc : X.calm = true) : CallM X E (.builtin "sum") (g1 gSum) := cm1 fun pins s σ H x us Q ρ S w I r rep rw' o => by
  unfold gSum at o
  cases e : (seqL S w).bind intsW with
  | none => rw [e] at o; exact o.elim
  | some ns =>
    rw [e] at o
    obtain ⟨a, rfl, hl⟩ := intsW_at rep rw' e
    exact cr_sum hc pins s σ H _ us Q I r ⟨a, ns, rfl, hl, Out.here o rep (.int _)⟩
end
/-! ### f-strings -/
noncomputable def mFmt (m : SM W) : SM W := fun s S => (m s S).bind fun w S1 => match w with
  | .str y => if y.length ≤ lim then .ok (.str y) S1 else .bad
  | _ => .bad
noncomputable def mJs : List (SM W) → Str → SM W
  | [], acc => fun _ S => .ok (.str acc) S
  | m :: ms, acc => fun s S => (m s S).bind fun w S1 => match w with
    | .str y => if (acc ++ y).length ≤ lim then mJs ms (acc ++ y) s S1 else .bad
    | _ => .bad
noncomputable def mJoined (ms : List (SM W)) : SM W := mJs ms Str.empty
inductive PJM (X : Cx) (E : EK) : List Expr → List (SM W) → Prop where
  | nil : PJM X E [] []
  | cons {e : Expr} {m : SM W} {es : List Expr} {ms : List (SM W)} (h : PM X E e m) (r : PJM X E es ms) : PJM X E (e :: es) (m :: ms)
section
variable {X : Cx} {E : EK} {pos : Pos} {e v1 v2 : Expr} {m : SM W} {ms : List (SM W)} {rest es : List Expr}
theorem pm_fmt (h : PM X E e m) : PM X E (.FormattedValue e (-1) none pos) (mFmt m) := pe_imp (pe_fmt h) fun σ H Q q => tX.bind q fun ρ1 H1 w x s S1 rep env r o => by
  cases w with
  | str y =>
    have o : Out X.K X.mg (RW X.K X.mg) E ρ1 H1 (if y.length ≤ lim then Res.ok (W.str y) S1 else Res.bad) Q := o
    split at o
    · rename_i hz
      cases r
      exact .inl ⟨y, rfl, lim_line hz, Out.here o rep (.str _)⟩
    · exact o.elim
  | _ => exact o.elim
theorem PJM.pj : ∀ {es : List Expr} {ms : List (SM W)}, PJM X E es ms → PJ X es (ms.map fun m => tE X E m)
  | _, _, .nil => .nil
  | _, _, .cons h r => .cons h r.pj
theorem js_of : ∀ (ms : List (SM W)) (acc : Str) (σ : L2.St) (H : Hp) (Q : VK), tE X E (mJs ms acc) σ H Q → tJs (ms.map fun m => tE X E m) acc σ H fun out H1 => Q (.str out) H1
  | [], acc, σ, H, Q, ⟨ρ, s, S, rep, env, o⟩ => Out.here o rep (.str _)
  | m :: ms, acc, σ, H, Q, h => tX.bind h fun ρ1 H1 w x s S1 rep env r o => by
    cases w with
    | str y =>
      have o : Out X.K X.mg (RW X.K X.mg) E ρ1 H1 (if (acc ++ y).length ≤ lim then mJs ms (acc ++ y) s S1 else Res.bad) Q := o
      split at o
      · rename_i hz
        cases r
        exact ⟨y, rfl, lim_line hz, js_of ms (acc ++ y) σ H1 Q ⟨ρ1, s, S1, rep, env, o⟩⟩
      · exact o.elim
    | _ => exact o.elim
theorem pm_joined (h : PJM X E (v1 :: v2 :: rest) ms) : PM X E (.JoinedStr (v1 :: v2 :: rest) pos) (mJoined ms) := pe_imp (pe_joined h.pj) fun σ H Q q => js_of ms Str.empty σ H Q q
theorem pm_joined1 (h : PM X E e m) : PM X E (.JoinedStr [e] pos) m := pe_joined1 h
/-! ### *e in an argument list or a display -/
noncomputable def mStar (m : SM W) (mr : SM (List W)) : SM (List W) := fun s S => (m s S).bind fun w S1 => match seqA S1 w with
  | some ws => (mr s S1).bind fun us S2 => .ok (ws ++ us) S2
  | none => .bad
theorem pam_star {p : Pos} {mr : SM (List W)} (h : PM X E e m) (hr : PAM X E es mr) (hs : starEach (.Starred e p :: es) X.env = (true, eval e X.env) :: starEach es X.env := by rfl) : PAM X E (.Starred e p :: es) (mStar m mr) :=
  pa_imp (StX.pa_star h hr hs) fun σ H Q q => tX.bind q fun ρ1 H1 w x s S1 rep env r o => by
    cases e1 : seqA S1 w with
    | none => rw [e1] at o; exact o.elim
    | some ws =>
      rw [e1] at o
      obtain ⟨a, vs, rfl, hl, hr, _⟩ := seqA_of rep r e1
      refine ⟨a, vs, rfl, hl.symm, ρ1, s, S1, rep, env, Out.bind o fun ρ2 H2 us xs S2 e2 rep2 r2 o2 => Out.here o2 rep2 ((hr.ext e2).append r2)⟩
end
/-! ### what is never reached -/
noncomputable def mNever : SS := fun _ _ => .bad
theorem psm_never {X : Cx} {E : EK} {st : Stmt} : PSM X E st mNever := ⟨fun pins s σ H D I ⟨_, _, _, _, _, o⟩ => o.elim⟩
/-! ### a module's dict of texts, read -/
noncomputable def KDTab (K : PySem.W.Frag) (mg : Str → Option Value) (w : World) (x : Str) (tab : List (Str × Str)) : Prop := ∃ p, mg x = some (.ref p) ∧ ∀ k v, tab.lookup k = some v → KDct K w p k (.str v)
noncomputable def mCDict (tab : List (Str × Str)) (mi : SM W) : SM W := fun s S => (mi s S).bind fun k S1 => match k with
  | .str z => match tab.lookup z with
    | some v => .ok (.str v) S1
    | none => .bad
  | _ => .bad
section
variable {X : Cx} {E : EK} {pos p : Pos} {i : Expr} {mi : SM W} {x : Str} {tab : List (Str × Str)}
theorem pm_cdict (T : KDTab X.K X.mg X.w x tab) (hi : PM X E i mi) (hg : Gl X x := by rfl) (hd : (x == ("__debug__" : Str)) = false := by decide +kernel) (hs : PlainIx i := by exact fun _ _ => rfl) : PM X E (.Subscript (.Name x p) i pos) (mCDict tab mi) := by
  obtain ⟨a, hm, ht⟩ := T
  refine pe_imp (pe_ix ix_kdict (pe_glob (v := .ref a) hg hm rfl hd) hi hs) fun σ H Q q => ?_
  show (fun y H1 => _) (V.ref a) H
  refine tX.bind q fun ρ1 H1 w y s S1 rep env r o => ?_
  cases w with
  | str z =>
    cases e : tab.lookup z with
    | none => simp only [e] at o; exact o.elim
    | some v =>
      simp only [e] at o
      cases r
      exact ⟨a, z, .str v, rfl, rfl, ht z v e, Out.here o rep (.str _)⟩
  | _ => exact o.elim
end
end RL
end
section
set_option maxRecDepth 100000
set_option maxHeartbeats 4000000
namespace PySem.W
open PySem PySem.Calls PyProof.Rows
section
variable {prog : Program} {w : World} {A : Around} {E : Value → Shared → Prop} {s : Shared} {K : Frag} {x C L f g : Addr} {h₀ : Heap} {m : Str → Option Value} {ox : Obj} {od : Option Obj} {T : String}
/-- a op x where only x's class has the operator (the reflected one) -/
theorem rm_rbinT {op : Operator} {a : Value} {Q : Value → Shared → Prop} (F : Fr h₀ L s.heap m) (X₀ : K.In h₀) (I : InstAt s.heap x ox C od) (ha : typeOf a = pure (.type T)) (hc : selfFirst K C = true)
    (hs : findIn K (.ref C) (PySem.dunder op.info.2) = some (some (.ref g))) (hr : findIn K (.ref C) (dunderR op.info.2) = some (some (.ref f))) (hf : isFn K (.ref f) = true)
    (h1 : findIn K (.type T) (PySem.dunder op.info.2) = some none) (h2 : findIn K (.type T) (dunderR op.info.2) = some none)
    (h : wpAny (model prog w) A (call (.ref f) [.ref x, a]) (CmpBack Q) E s) : wpAny (model prog w) A (binaryOp op a (.ref x)) Q E s := by
  have X := X₀.keeps F.keep
  obtain ⟨cd, rest, hcd, hm⟩ := ksp_first hc
  rcases hi : op.info with ⟨sym, nm'⟩
  rw [hi] at hs hr h1 h2
  dsimp only at hs hr h1 h2
  have one := ksp_try X I hr hf h
  obtain ⟨hh, gg, d, tt, os⟩ := s
  have L1 : Looks (model prog w) hh (typeOf (.ref x)) (.ref C) := I.type
  have L2 : Looks (model prog w) hh (typeOf a) (.type T) := Looks.of_pure ha
  have L3 : Looks (model prog w) hh (fillsNumberSlot (.ref C) nm') true := fills_K X hcd hm hs
  have L4 : Looks (model prog w) hh (fillsNumberSlot (.type T) nm') false := ksp_fillsT X h1 h2
  have hne : (Value.type T == Value.ref C) = false := Bool.eq_false_iff.mpr fun q => by cases beq_iff_eq.mp q
  simp only [binaryOp, hi]
  refine wpAny_holding (wpAny_bind ?_)
  unfold binaryOp1
  refine wpAny_bind (L2.at (wpAny_bind (L1.at (wpAny_bind (L4.at ?_)))))
  simp only [hne, Bool.false_eq_true, if_false]
  repeat ((fail_if_success (with_reducible show wpAny _ _ (tryMethod _ _ _) _ _ _)); lk)
  refine wpAny_mono one (fun r s' hr' => ?_) fun _ _ e => e
  obtain ⟨v, rfl, hq⟩ := hr'
  repeat ((fail_if_success (with_reducible show wpAny _ _ (tryMethod _ _ _) _ _ _)); lk)
  exact hq
end
end PySem.W
namespace RL
open PySem PySem.Spec L2 OrdX
open PyProof.Rows hiding St
variable [Lams]
/-! ### instances -/
noncomputable def insAt (S : Store) : W → Option (Str × List Str × List W)
  | .ins c ns ws => some (c, ns, ws)
  | .ref l => match S[l]? with
    | some (.ins c ns ws) => some (c, ns, ws)
    | _ => none
  | _ => none
section
variable {K : PySem.W.Frag} {mg : Str → Option Value} {ρ ρ' : RT} {H H' : Hp} {S : Store}
theorem insAt_of {w : W} {x : V} {c : Str} {ns : List Str} {ws : List W} (rep : RepS K mg ρ H S) (r : RW K mg ρ H w x) (h : insAt S w = some (c, ns, ws)) : ∃ a C dx vs, x = .ref a ∧ mg c = some (.ref C) ∧ H a = some (.ins C dx (ns.zip vs)) ∧ ns.length = vs.length ∧ RWs K mg ρ H ws vs := by
  cases w with
  | ins c' ns' ws' => cases h; cases r with | ins hc hf hl hr => exact ⟨_, _, _, _, rfl, hc, hf.1, hl, hr⟩
  | ref l =>
    cases r with
    | @ref l p hl =>
      cases e : S[l]? with
      | none => simp [insAt, e] at h
      | some ob =>
        obtain ⟨a, h1, h2⟩ := rep.ob l _ e
        rw [hl] at h1; cases h1
        cases h2 with
        | ins hc h3 h4 h5 =>
          simp [insAt, e] at h
          obtain ⟨rfl, rfl, rfl⟩ := h
          exact ⟨_, _, _, _, rfl, hc, h3, h4, h5⟩
        | _ => simp [insAt, e] at h
  | _ => cases h
theorem lookup_rws {f : Str} {w : W} : ∀ {ns : List Str} {ws : List W} {vs : List V}, RWs K mg ρ H ws vs → (ns.zip ws).lookup f = some w → ∃ v, (ns.zip vs).lookup f = some v ∧ RW K mg ρ H w v
  | [], _, _, _, h => by simp at h
  | n :: ns, _, _, .nil, h => by simp at h
  | n :: ns, _, _, .cons r t, h => by
    rw [List.zip_cons_cons, List.lookup_cons] at h ⊢
    cases e : f == n with
    | true => rw [e] at h; cases h; exact ⟨_, rfl, r⟩
    | false => rw [e] at h; exact lookup_rws t h
theorem lookup_not {f : Str} : ∀ {ns : List Str} {vs : List V}, ns.contains f = false → (ns.zip vs).lookup f = none
  | [], _, _ => by simp
  | n :: ns, [], _ => by simp
  | n :: ns, v :: vs, h => by
    rw [List.contains_cons, Bool.or_eq_false_iff] at h
    rw [List.zip_cons_cons, List.lookup_cons, h.1]
    exact lookup_not h.2
end
/-! ### o.f -/
noncomputable def FldT (K : PySem.W.Frag) (mg : Str → Option Value) (c f : Str) : Prop := ∃ C, mg c = some (.ref C) ∧ Cls K C ∧ NoAttr K C f
noncomputable def gFld (c f : Str) (w : W) (S : Store) : Res W := match insAt S w with
  | some (c', ns, ws) => if c' = c then (match (ns.zip ws).lookup f with
    | some v => .ok v S
    | none => .bad) else .bad
  | none => .bad
section
variable {X : Cx} {E : EK} {pos apos : Pos} {e o : Expr} {es : List Expr} {ma mo : SM W} {mr : SM (List W)} {c f m : Str} {n k k' : Nat}
theorem pm_fld (T : FldT X.K X.mg c f) (he : PM X E e ma) (hb : attributeBase e f X.env (eval e X.env) = eval e X.env := by rfl) : PM X E (.Attribute e f pos) (mUn (gFld c f) ma) :=
  pe_imp (pe_fld he hb) fun σ H Q h => tX.bind (m := ma) (k := fun w s S => gFld c f w S) h fun ρ1 H1 w x s S1 rep env r o => by
    obtain ⟨C, hC, hc, hn⟩ := T
    unfold gFld at o
    cases e1 : insAt S1 w with
    | none => rw [e1] at o; exact o.elim
    | some p =>
      obtain ⟨c', ns, ws⟩ := p
      rw [e1] at o
      dsimp only at o
      split at o
      · rename_i hcc
        subst hcc
        cases e2 : (ns.zip ws).lookup f with
        | none => rw [e2] at o; exact o.elim
        | some v =>
          rw [e2] at o
          obtain ⟨a, C', dx, vs, rfl, hm, ha, hl, hr⟩ := insAt_of rep r e1
          rw [hC] at hm; cases hm
          obtain ⟨v', h1, h2⟩ := lookup_rws hr e2
          exact ⟨a, C, dx, _, v', rfl, ha, hc, hn, h1, Out.here o rep h2⟩
      · exact o.elim
end
theorem Out.monoQ {K : PySem.W.Frag} {mg : Str → Option Value} {α β : Type} {R : Rl β α} {E : EK} {ρ : RT} {H : Hp} {r : Res α} {Q Q' : β → Hp → Prop} (h : Out K mg R E ρ H r Q) (f : ∀ v H, Q v H → Q' v H) : Out K mg R E ρ H r Q' := by
  cases r with
  | ok w S => exact fun ρ1 H1 v e rep rr => f _ _ (h ρ1 H1 v e rep rr)
  | exc c ns ws S => exact h
  | bad => exact h
/-! ### methods -/
/-- a method of the class c that is worth g -/
noncomputable def MeE (P : Program) (w : World) (K : PySem.W.Frag) (mg : Str → Option Value) (base : Heap) (k : Nat) (c m q : Str) (st : Stmt) (ps : List Str) (g : Fn) : Prop :=
  ∃ C f fd, mg c = some (.ref C) ∧ Cls K C ∧ Meth K C m f ∧ Fun K m q st f fd ∧ Binds K fd ps [] ∧ FnM P w K mg base k f fd ps ps.length g
noncomputable def MTx (K : PySem.W.Frag) (mg : Str → Option Value) (c m q : Str) (st : Stmt) (ps : List Str) : Prop := ∃ C f fd, mg c = some (.ref C) ∧ Cls K C ∧ Meth K C m f ∧ Fun K m q st f fd ∧ Binds K fd ps []
noncomputable def mMeth (c m : Str) (g : Fn) (mo : SM W) (mr : SM (List W)) : SM W := fun s S => (mo s S).bind fun w S1 => match insAt S1 w with
  | some (c', ns, _) => if c' = c ∧ ns.contains m = false then (mr s S1).bind fun ws S2 => g (w :: ws) S2 else .bad
  | none => .bad
section
variable {P : Program} {w : World} {K : PySem.W.Frag} {mg : Str → Option Value} {base : Heap}
theorem me_e {c m q : Str} {st : Stmt} {N ps : List Str} {k : Nat} {b : SS} (T : MTx K mg c m q st ps) (Sc : FnScope N ps (defScope st))
    (hb : ∀ (f : Addr) (cdv : Value) (A : Around) (outer : List Env) (s : Shared) (H : Hp) (E : EK), Room k (A.deeper (envOfC q (defScope st) s.heap.objs.size f cdv)) → Takes (cxOf (L2.CX P w) P w K mg base N q (defScope st) f cdv A outer s H E) (fun c d _ H => E c d H) → PSsM (cxOf (L2.CX P w) P w K mg base N q (defScope st) f cdv A outer s H E) E (defBody st) b) :
    MeE P w K mg base (k + 1) c m q st ps (runB N.length b) := by
  obtain ⟨C, f, fd, h1, h2, h3, F, hb'⟩ := T
  exact ⟨C, f, fd, h1, h2, h3, F, hb', fn_m F Sc (hb f)⟩
theorem meE_bad {c m q : Str} {st : Stmt} {ps : List Str} {k : Nat} (T : MTx K mg c m q st ps) : MeE P w K mg base k c m q st ps (fun _ _ => .bad) := by
  obtain ⟨C, f, fd, h1, h2, h3, F, hb'⟩ := T
  exact ⟨C, f, fd, h1, h2, h3, F, hb', fn_bad⟩
end
section
variable {X : Cx} {E : EK} {pos apos : Pos} {e o : Expr} {es : List Expr} {mo : SM W} {mr : SM (List W)} {c m q : Str} {n k k' : Nat} {st : Stmt} {ps : List Str} {g : Fn} {pl : Sem Bool}
theorem meth_sp {C : Addr} {σ : L2.St} {H : Hp} {Q : VK} (hC : X.mg c = some (.ref C)) (h : tE X E (mMeth c m g mo mr) σ H Q) (hn : ∀ s S ws S', mr s S = .ok ws S' → ws.length = n) : tMeth C m (spM X.K X.mg (n + 1) g) [] E (tE X E mo) (tA X E mr) σ H Q :=
  tX.bind h fun ρ1 H1 w x s S1 rep env r out => by
    cases e1 : insAt S1 w with
    | none => rw [e1] at out; exact out.elim
    | some p =>
      obtain ⟨c', ns, ws0⟩ := p
      rw [e1] at out
      dsimp only at out
      split at out
      · rename_i hcc
        obtain ⟨hcc, hnm⟩ := hcc
        subst hcc
        obtain ⟨a, C', dx, vs0, rfl, hm, ha, hl, hr⟩ := insAt_of rep r e1
        rw [hC] at hm; cases hm
        refine ⟨a, dx, _, rfl, ha, lookup_not hnm, ρ1, s, S1, rep, env, ?_⟩
        cases e2 : mr s S1 with
        | ok ws S2 =>
          rw [e2] at out
          exact fun ρ2 H2 vs x rep2 r2 => ⟨ρ2, S2, w :: ws, rep2, by rw [List.append_nil]; exact .cons (r.ext x) r2, by rw [List.length_cons, hn _ _ _ _ e2], Out.ext x out⟩
        | exc c ns ws S2 => rw [e2] at out; exact out
        | bad => rw [e2] at out; exact out
      · exact out.elim
theorem pm_meth [hl : Len mr n] (F : MeE X.prog X.w X.K X.mg X.base k c m q st ps g) (hr : Room k' X.A) (hk : k ≤ k') (tk : Takes X (fun c d _ H => E c d H)) (ho : PM X E o mo) (ha : PAM X E (e :: es) mr) (hn : n + 1 = ps.length := by rfl)
    (hst : starEach (e :: es) X.env = (false, eval e X.env) :: starEach es X.env := by rfl) (hpl : (backTo pos (starEach es X.env)).any (·.1) = false := by rfl)
    (ht : eval (.Call (.Attribute o m apos) (e :: es) [] pos) X.env = (do
      let ov ← eval o X.env
      standAt apos.atName
      let (f, first) ← holding [ov] (getMethod ov m pl)
      callWith pos f first (backTo pos (starEach (e :: es) X.env)) (backToKw pos (keywordEach [] X.env))) := by rfl) : PM X E (.Call (.Attribute o m apos) (e :: es) [] pos) (mMeth c m g mo mr) := by
  obtain ⟨C, f, fd, h1, h2, h3, h4, h5, h6⟩ := F
  rw [← hn] at h6
  exact pe_imp (pe_meth (pl := pl) ho h2 h3 h6 (hr.mono hk) h5 .nil (passM tk) ha hst hpl ht) fun σ H Q h => meth_sp h1 h hl.len
theorem pm_meth0 (F : MeE X.prog X.w X.K X.mg X.base k c m q st ps g) (hr : Room k' X.A) (hk : k ≤ k') (tk : Takes X (fun c d _ H => E c d H)) (ho : PM X E o mo) (hn : 1 = ps.length := by rfl)
    (ht : eval (.Call (.Attribute o m apos) [] [] pos) X.env = (do
      let ov ← eval o X.env
      standAt apos.atName
      let (f, first) ← holding [ov] (getMethod ov m pl)
      callWith pos f first (backTo pos (starEach [] X.env)) (backToKw pos (keywordEach [] X.env))) := by rfl) : PM X E (.Call (.Attribute o m apos) [] [] pos) (mMeth c m g mo mNil) := by
  obtain ⟨C, f, fd, h1, h2, h3, h4, h5, h6⟩ := F
  rw [← hn] at h6
  refine pe_imp (pe_meth0 (pl := pl) ho h2 h3 h6 (hr.mono hk) h5 .nil (passM tk) ht) fun σ H Q h => ?_
  have := meth_sp (n := 0) h1 h (fun s S ws S' e => by cases e; rfl)
  obtain ⟨ρ, s, S, rep, env, o⟩ := this
  refine ⟨ρ, s, S, rep, env, o.monoQ fun x H1 ⟨a, dx, fs, e1, e2, e3, ρ2, s2, S2, rep2, env2, o2⟩ => ⟨a, dx, fs, e1, e2, e3, Out.here o2 rep2 .nil⟩⟩
end
/-! ### static methods -/
/-- a static method of the class c that is worth g -/
structure SmF (K : PySem.W.Frag) (C f : Addr) (m : Str) : Prop where
  ex : ∃ (mc : Value) (p : Addr) (rest : List Value), ClX.CRead K C mc ∧ PySem.W.findCls K (.ref C) mc m = some (.get (.builtin "staticmethod.__get__") (.ref p) .none (.ref C)) ∧ PySem.W.recIn K p "staticmethod" = some (.ref f :: rest)
noncomputable def StTx (K : PySem.W.Frag) (mg : Str → Option Value) (c m q : Str) (st : Stmt) (ps : List Str) : Prop := ∃ C f fd, mg c = some (.ref C) ∧ SmF K C f m ∧ Fun K m q st f fd ∧ Binds K fd ps []
noncomputable def StE (P : Program) (w : World) (K : PySem.W.Frag) (mg : Str → Option Value) (base : Heap) (k : Nat) (c m q : Str) (st : Stmt) (ps : List Str) (g : Fn) : Prop :=
  ∃ C f fd, mg c = some (.ref C) ∧ SmF K C f m ∧ Fun K m q st f fd ∧ Binds K fd ps [] ∧ FnM P w K mg base k f fd ps ps.length g
section
variable {P : Program} {w : World} {K : PySem.W.Frag} {mg : Str → Option Value} {base : Heap}
theorem st_e {c m q : Str} {st : Stmt} {N ps : List Str} {k : Nat} {b : SS} (T : StTx K mg c m q st ps) (Sc : FnScope N ps (defScope st))
    (hb : ∀ (f : Addr) (cdv : Value) (A : Around) (outer : List Env) (s : Shared) (H : Hp) (E : EK), Room k (A.deeper (envOfC q (defScope st) s.heap.objs.size f cdv)) → Takes (cxOf (L2.CX P w) P w K mg base N q (defScope st) f cdv A outer s H E) (fun c d _ H => E c d H) → PSsM (cxOf (L2.CX P w) P w K mg base N q (defScope st) f cdv A outer s H E) E (defBody st) b) :
    StE P w K mg base (k + 1) c m q st ps (runB N.length b) := by
  obtain ⟨C, f, fd, h1, h2, F, hb'⟩ := T
  exact ⟨C, f, fd, h1, h2, F, hb', fn_m F Sc (hb f)⟩
end
section
variable {X : Cx} {E : EK} {pos apos p : Pos} {e o : Expr} {es : List Expr} {mo : SM W} {mr mk : SM (List W)} {c m q : Str} {n k k' : Nat} {st : Stmt} {ps : List Str} {g : Fn} {pl : Sem Bool}
theorem getsm_ok {pins : List (Addr × Obj)} {σ : L2.St} {H : Hp} {s : Shared} {A : Around} {E : Value → Shared → Prop} {C f : Addr} {Q : Value × List Value → Shared → Prop} (I : Inv X pins σ H s) (F : SmF X.K C f m) (h : ∀ s', Inv X pins σ H s' → Q (.ref f, []) s') :
    wpAny (model X.prog X.w) A (getMethod (.ref C) m pl) Q E s := by
  obtain ⟨mc, p, rest, r, e, hp⟩ := F.ex
  refine PySem.W.method_cls I.kIn r.ga (PySem.W.cls_bind I.kIn r.rd e (wpAny_call (PySem.W.sm_get (s := { s with toks := s.toks + 1 }) I.kIn hp ?_)))
  exact PySem.W.handed_on rfl (h _ (I.tok _))
theorem pm_stat [hl : Len mr n] (F : StE X.prog X.w X.K X.mg X.base k c m q st ps g) (hr : Room k' X.A) (hk : k ≤ k') (tk : Takes X (fun c d _ H => E c d H)) (ha : PAM X E (e :: es) mr) (hn : n = ps.length := by rfl)
    (hg : Gl X c := by rfl) (hdb : (c == ("__debug__" : Str)) = false := by decide +kernel)
    (hst : starEach (e :: es) X.env = (false, eval e X.env) :: starEach es X.env := by rfl) (hpl : (backTo pos (starEach es X.env)).any (·.1) = false := by rfl)
    (ht : eval (.Call (.Attribute (.Name c p) m apos) (e :: es) [] pos) X.env = (do
      let ov ← eval (.Name c p) X.env
      standAt apos.atName
      let (f, first) ← holding [ov] (getMethod ov m pl)
      callWith pos f first (backTo pos (starEach (e :: es) X.env)) (backToKw pos (keywordEach [] X.env))) := by rfl) : PM X E (.Call (.Attribute (.Name c p) m apos) (e :: es) [] pos) (mAp g mr) := by
  obtain ⟨C, f, fd, h1, h2, h4, h5, h6⟩ := F
  rw [← hn] at h6
  refine ⟨fun pins s σ H Q I h => ?_⟩
  refine PySem.W.methodCall_KW (pl := pl) (thn ((pe_glob (v := .ref C) (pos := p) hg h1 rfl hdb).run pins s σ H (fun v H1 => v = .ref C ∧ H1 = H) I ⟨rfl, rfl⟩) fun u s1 ⟨x, H1, I1, rx, ex, eH⟩ => ?_) ht
  subst ex eH
  obtain rfl : u = Value.ref C := rx
  refine getsm_ok I1 h2 fun s2 I2 => ?_
  refine PySem.W.callWith_K (first := []) (h₀ := X.base) I2.ok.mod.kin h4.kp (thn (ha.run pos pins s2 σ H1 _ I2 (call_sp h hl.len)) fun us s3 ⟨vs, H2, I3, r, q2⟩ => ⟨I3.kIn, ?_⟩) hst hpl
  exact run_fn (us := us) (vs := vs) h6 (hr.mono hk) h5 .nil (passM tk) I3 r q2
theorem pm_stat0 (F : StE X.prog X.w X.K X.mg X.base k c m q st [] g) (hr : Room k' X.A) (hk : k ≤ k') (tk : Takes X (fun c d _ H => E c d H))
    (hg : Gl X c := by rfl) (hdb : (c == ("__debug__" : Str)) = false := by decide +kernel)
    (ht : eval (.Call (.Attribute (.Name c p) m apos) [] [] pos) X.env = (do
      let ov ← eval (.Name c p) X.env
      standAt apos.atName
      let (f, first) ← holding [ov] (getMethod ov m pl)
      callWith pos f first (backTo pos (starEach [] X.env)) (backToKw pos (keywordEach [] X.env))) := by rfl) : PM X E (.Call (.Attribute (.Name c p) m apos) [] [] pos) (mAp g mNil) := by
  obtain ⟨C, f, fd, h1, h2, h4, h5, h6⟩ := F
  refine ⟨fun pins s σ H Q I h => ?_⟩
  refine PySem.W.methodCall_KW (pl := pl) (thn ((pe_glob (v := .ref C) (pos := p) hg h1 rfl hdb).run pins s σ H (fun v H1 => v = .ref C ∧ H1 = H) I ⟨rfl, rfl⟩) fun u s1 ⟨x, H1, I1, rx, ex, eH⟩ => ?_) ht
  subst ex eH
  obtain rfl : u = Value.ref C := rx
  refine getsm_ok I1 h2 fun s2 I2 => ?_
  refine PySem.W.callWith_K0 (first := []) I2.kIn h4.kp (run_fn (us := []) (vs := []) h6 (hr.mono hk) h5 .nil (passM tk) I2 .nil ?_)
  obtain ⟨ρ, s', S, rep, env, o⟩ := h
  exact ⟨ρ, S, [], rep, .nil, rfl, o⟩
end
/-! ### new instances of a class whose __init__ only keeps its arguments -/
noncomputable def tInit (C : Addr) : List (Str × Nat) → TS
  | [] => fun D σ H => D.nx σ H
  | (f, i) :: l => fun D σ H => ∃ x dx fs v, σ[0]? = some (some (V.ref x)) ∧ σ[i]? = some (some v) ∧ H x = some (.ins C dx fs) ∧ fs.length < 1000 ∧ tInit C l D σ (upd H x (.ins C dx (putF f v fs)))
theorem psi_nil {X : Cx} {C : Addr} : PSs X [] (tInit C []) := pss_imp pss_nil fun D σ H h => h
theorem psi_cons {X : Cx} {C : Addr} {x0 f y : Str} {i : Nat} {p1 p2 p3 p4 : Pos} {sts : List Stmt} {l : List (Str × Nat)} (hc : Cls X.K C) (hn : NoAttr X.K C f) (hs : PSs X sts (tInit C l)) (h0 : X.N[0]? = some x0 := by rfl) (hi : X.N[i]? = some y := by rfl)
    (hv0 : Vis X.env.scope x0 := by first | exact Or.inl rfl | exact Or.inr (Or.inl rfl)) (hvi : Vis X.env.scope y := by first | exact Or.inl rfl | exact Or.inr (Or.inl rfl))
    (hd0 : (x0 == ("__debug__" : Str)) = false := by decide +kernel) (hdi : (y == ("__debug__" : Str)) = false := by decide +kernel) (hk0 : (x0 == ("__classdict__" : Str)) = false := by decide +kernel) (hki : (y == ("__classdict__" : Str)) = false := by decide +kernel)
    (hsw : swapsWith (.Name y p3) (some (.Attribute (.Name x0 p1) f p2)) p4.line X.env = pure false := by rfl) :
    PSs X (.Assign [.Attribute (.Name x0 p1) f p2] (.Name y p3) p4 :: sts) (tInit C ((f, i) :: l)) :=
  pss_imp (pss_cons (ps_fld (pe_var (pos := p1) h0 hv0 hd0 hk0) (pe_var (pos := p3) hi hvi hdi hki) hsw) hs) fun D σ H ⟨x, dx, fs, v, e0, ei, ex, hl, h⟩ => ⟨v, ei, .ref x, e0, x, C, dx, fs, rfl, ex, hc, hn, hl, h⟩
end RL
end
section
set_option maxRecDepth 100000
set_option maxHeartbeats 4000000
namespace RL
open PySem PySem.Spec L2 OrdX
open PyProof.Rows hiding St
variable [Lams]
/-! ### C(..) -/
theorem upd_id {H : Hp} {a : Addr} {o : HO} (h : H a = some o) : upd H a o = H := by
  funext b
  by_cases e : b = a
  · subst e; rw [upd_same, h]
  · rw [upd_ne e]
theorem putF_new {f : Str} {v : V} : ∀ {fs : List (Str × V)}, f ∉ fs.map (·.1) → putF f v fs = fs ++ [(f, v)]
  | [], _ => rfl
  | (g, x) :: r, h => by
    rw [List.map_cons, List.mem_cons, not_or] at h
    rw [show putF f v ((g, x) :: r) = (if g = f then (g, v) :: r else (g, x) :: putF f v r) from rfl, if_neg (fun e => h.1 e.symm), putF_new h.2]
    rfl
theorem init_run {C x dx : Addr} {D : Ends} : ∀ {l : List (Str × Nat)} {us : List V} {fs : List (Str × V)} {σ : L2.St} {H : Hp}, σ[0]? = some (some (V.ref x)) → (∀ (j : Nat) p, l[j]? = some p → ∃ u, us[j]? = some u ∧ σ[p.2]? = some (some u)) → us.length = l.length →
    (l.map (·.1)).Nodup → (∀ p ∈ l, p.1 ∉ fs.map (·.1)) → fs.length + l.length < 1000 → H x = some (.ins C dx fs) → D.nx σ (upd H x (.ins C dx (fs ++ (l.map (·.1)).zip us))) → tInit C l D σ H
  | [], us, fs, σ, H, _, _, hl, _, _, _, hx, h => by
    have : upd H x (.ins C dx (fs ++ ([] : List Str).zip us)) = H := by rw [List.zip_nil_left, List.append_nil]; exact upd_id hx
    rw [List.map_nil, this] at h
    exact h
  | (f, i) :: l, [], _, _, _, _, _, hl, _, _, _, _, _ => by simp at hl
  | (f, i) :: l, u :: us, fs, σ, H, h0, hv, hl, nd, hn, hz, hx, h => by
    obtain ⟨u', e1, e2⟩ := hv 0 (f, i) rfl
    cases (Option.some.inj e1 : u = u')
    rw [List.map_cons, List.nodup_cons] at nd
    rw [List.length_cons] at hz
    refine ⟨x, dx, fs, u, h0, e2, hx, by omega, ?_⟩
    rw [putF_new (hn (f, i) List.mem_cons_self)]
    refine init_run (us := us) (fs := fs ++ [(f, u)]) h0 (fun j p hj => hv (j + 1) p hj) (by simpa using hl) nd.2 (fun p m => ?_) (by rw [List.length_append, List.length_singleton]; omega) upd_same ?_
    · rw [List.map_append, List.mem_append, not_or]
      refine ⟨hn p (List.mem_cons_of_mem _ m), fun z => ?_⟩
      have : p.1 = f := by simpa using z
      exact nd.1 (this ▸ List.mem_map.mpr ⟨p, m, rfl⟩)
    · rw [upd_upd, List.append_assoc]
      exact h
/-- what such an __init__ promises -/
noncomputable def spInit (C : Addr) (ns : List Str) : Sp := fun vs H Q _ => ∃ x dx us, vs = V.ref x :: us ∧ us.length = ns.length ∧ H x = some (.ins C dx []) ∧ Q .non (upd H x (.ins C dx (ns.zip us)))
noncomputable def MkE (P : Program) (w : World) (K : PySem.W.Frag) (mg : Str → Option Value) (base : Heap) (k : Nat) (c : Str) (ns : List Str) : Prop :=
  ∃ C f fd ps, mg c = some (.ref C) ∧ Mk K C f ∧ Binds K fd ps [] ∧ FnOk P w K mg base (L2.CX P w) k f fd ps (spInit C ns)
/-- the text's facts of a class and its __init__ -/
noncomputable def MkTx (K : PySem.W.Frag) (mg : Str → Option Value) (c q : Str) (st : Stmt) (ps ns : List Str) : Prop := ∃ C f fd, mg c = some (.ref C) ∧ Cls K C ∧ Mk K C f ∧ Fun K "__init__" q st f fd ∧ Binds K fd ps [] ∧ ∀ n ∈ ns, NoAttr K C n
theorem mk_e {P : Program} {w : World} {K : PySem.W.Frag} {mg : Str → Option Value} {base : Heap} {c q : Str} {st : Stmt} {N ps ns : List Str} {k : Nat} {l : List (Str × Nat)} (T : MkTx K mg c q st ps ns) (Sc : FnScope N ps (defScope st))
    (hl : l.map (·.1) = ns) (hsl : l.map (·.2) = (List.range ns.length).map (· + 1)) (nd : ns.Nodup) (h1000 : ns.length < 1000) (hp : ps.length = ns.length + 1) (hN : ps.length ≤ N.length)
    (hb : ∀ (C f : Addr) (cdv : Value) (A : Around) (outer : List Env) (s : Shared) (H : Hp) (E : XK), Cls K C → (∀ n ∈ ns, NoAttr K C n) → PSs (cxOf (L2.CX P w) P w K mg base N q (defScope st) f cdv A outer s H E) (defBody st) (tInit C l)) :
    MkE P w K mg base (k + 1) c ns := by
  obtain ⟨C, f, fd, h1, h2, h3, F, h5, h6⟩ := T
  refine ⟨C, f, fd, ps, h1, h3, h5, F.okX Sc (fun vs H Q E h => ?_) fun cdv A outer s H vs Q E hr h => ⟨_, hb C f cdv A outer s H E h2 h6, ?_⟩⟩
  · obtain ⟨x, dx, us, rfl, e, _⟩ := h
    rw [List.length_cons, e, hp]
  · obtain ⟨x, dx, us, rfl, e, hx, q⟩ := h
    have hll : l.length = ns.length := by rw [← hl, List.length_map]
    refine init_run (x := x) (dx := dx) (us := us) (fs := []) (by simp [L2.start]) (fun j p hj => ?_) (by rw [e, hll]) (by rw [hl]; exact nd) (by simp) (by rw [List.length_nil, hll]; omega) hx (by rw [List.nil_append, hl]; exact q)
    have hjl : j < l.length := (List.getElem?_eq_some_iff.mp hj).1
    have hju : j < us.length := by rw [e, ← hll]; exact hjl
    refine ⟨us[j], List.getElem?_eq_getElem hju, ?_⟩
    have e2 : p.2 = j + 1 := by
      have : (l.map (·.2))[j]? = some p.2 := by rw [List.getElem?_map, hj]; rfl
      rw [hsl, List.getElem?_map, List.getElem?_range (by rw [← hll]; exact hjl)] at this
      exact (Option.some.inj this).symm
    rw [e2]
    unfold L2.start
    rw [List.getElem?_append_left (by simp; omega), List.getElem?_map, List.getElem?_cons_succ, List.getElem?_eq_getElem hju]
    rfl
noncomputable def gMake (c : Str) (ns : List Str) (ws : List W) (S : Store) : Res W := if ws.length = ns.length then .ok (.ins c ns ws) S else .bad
section
variable {X : Cx} {E : EK} {pos apos p : Pos} {e o : Expr} {es : List Expr} {mo : SM W} {mr mk : SM (List W)} {c m q x : Str} {n k k' : Nat} {st : Stmt} {ps ns : List Str} {g : Fn} {pl : Sem Bool}
theorem pm_make (F : MkE X.prog X.w X.K X.mg X.base k c ns) (hr : Room k' X.A) (hk : k + 1 ≤ k') (tk : Takes X (fun c d _ H => E c d H)) (ha : PAM X E (e :: es) mr)
    (hg : Gl X c := by rfl) (hdb : (c == ("__debug__" : Str)) = false := by decide +kernel) (he : starEach (e :: es) X.env = (false, eval e X.env) :: starEach es X.env := by rfl) (hpl : (backTo pos (starEach es X.env)).any (·.1) = false := by rfl) : PM X E (.Call (.Name c p) (e :: es) [] pos) (mAp (gMake c ns) mr) := by
  obtain ⟨C, f, fd, ps, h1, h2, h3, h4⟩ := F
  refine pe_imp (pe_make (E := E) h2 h4 (hr.mono hk) hg h1 h3 .nil (passM tk) ha hdb he hpl) fun σ H Q h => ?_
  refine tX.bind (m := mr) (k := fun ws s S => gMake c ns ws S) h fun ρ1 H1 ws vs s S1 rep env r o x dx hx hdx hne => ?_
  unfold gMake at o
  split at o
  · rename_i hz
    rw [List.append_nil]
    obtain ⟨e1, rep1⟩ := rep.tree hdx (.own x)
    have hx1 : upd H1 dx (.own x) x = none := by rw [upd_ne (fun z => hne z.symm)]; exact hx
    obtain ⟨e2, rep2⟩ := rep1.tree hx1 (.ins C dx (ns.zip vs))
    refine ⟨x, dx, vs, rfl, by rw [← r.length]; exact hz, upd_same, rfl, ?_⟩
    rw [upd_upd]
    exact o ρ1 _ _ (e1.trans e2) rep2 (.ins h1 (fx_new rep1 hx1 _) (by rw [← r.length]; exact hz.symm) ((r.ext e1).ext e2))
  · exact o.elim
end
/-! ### a class by its name -/
theorem kcon_cls {K : PySem.W.Frag} {mg : Str → Option Value} {x : Str} {C : Addr} (h : mg x = some (.ref C)) : KCon K mg x (.gl x) := ⟨.ref C, .ref C, h, rfl, fun _ _ => .gl h⟩
/-! ### defs with *rest -/
noncomputable def StarE (P : Program) (w : World) (K : PySem.W.Frag) (mg : Str → Option Value) (base : Heap) (k : Nat) (x : Str) (np : Nat) (g : Fn) : Prop :=
  ∃ f, mg x = some (.ref f) ∧ PySem.W.keepIn K (.ref f) = true ∧ FnR P w K mg base (L2.CX P w) k f (fun vs H Q E => ∃ ρ S ws us, RepS K mg ρ H S ∧ RWs K mg ρ H (ws ++ us) vs ∧ ws.length = np ∧ us.length ≤ lim ∧ Out K mg (RW K mg) E ρ H (g (ws ++ [.tup us]) S) Q)
noncomputable def StarTx (K : PySem.W.Frag) (mg : Str → Option Value) (x : Str) (st : Stmt) (ps : List Str) (pv : Str) : Prop :=
  ∃ (f : Addr) (oc : Value) (od : Option Addr) (kV doc pm : Value) (an : Option Addr) (cdv ct : Value) (osl : Array (Option Value)), mg x = some (.ref f) ∧ PySem.W.keepIn K (.ref f) = true ∧
    K.lookup f = some ⟨oc, od, .func (PySem.W.fnOf x x (defArgs st) (defBody st) (defScope st) .none kV doc pm an cdv ct), osl⟩ ∧ PySem.W.codeIn K cdv x = true ∧
    ∀ us rest : List Value, us.length = ps.length → bindArgs (PySem.W.fnOf x x (defArgs st) (defBody st) (defScope st) .none kV doc pm an cdv ct) ⟨us ++ rest, []⟩ = (newTuple rest >>= fun t => pure (ps.zip us ++ [(pv, t)]))
theorem RWs.split {K : PySem.W.Frag} {mg : Str → Option Value} {ρ : RT} {H : Hp} : ∀ {ws us : List W} {vs : List V}, RWs K mg ρ H (ws ++ us) vs → ∃ v1 v2, vs = v1 ++ v2 ∧ RWs K mg ρ H ws v1 ∧ RWs K mg ρ H us v2
  | [], us, vs, r => ⟨[], vs, rfl, .nil, r⟩
  | w :: ws, us, _, .cons a r => by
    obtain ⟨v1, v2, e, r1, r2⟩ := RWs.split (ws := ws) (us := us) r
    exact ⟨_ :: v1, v2, by rw [e]; rfl, .cons a r1, r2⟩
theorem star_e {P : Program} {w : World} {K : PySem.W.Frag} {mg : Str → Option Value} {base : Heap} {x pv : Str} {st : Stmt} {N ps : List Str} {k : Nat} {m : SS} (T : StarTx K mg x st ps pv) (Sc : FnScope N (ps ++ [pv]) (defScope st))
    (hb : ∀ (f : Addr) (cdv : Value) (A : Around) (outer : List Env) (s : Shared) (H : Hp) (E : EK), Room k (A.deeper (envOfC x (defScope st) s.heap.objs.size f cdv)) → Takes (cxOf (L2.CX P w) P w K mg base N x (defScope st) f cdv A outer s H E) (fun c d _ H => E c d H) → PSsM (cxOf (L2.CX P w) P w K mg base N x (defScope st) f cdv A outer s H E) E (defBody st) m) :
    StarE P w K mg base (k + 1) x ps.length (runB N.length m) := by
  obtain ⟨f, oc, od, kV, doc, pm, an, cdv, ct, osl, h1, h2, h3, h4, h5⟩ := T
  refine ⟨f, h1, h2, FnR.imp (StX.fn_star (sp := spM K mg (ps.length + 1) (runB N.length m)) h3 h4 Sc StX.cxUp h5 fun A outer s H vs Q E hr h => ⟨_, hb f cdv A outer s H ⟨E, fun _ => none⟩ hr (takes_of rfl rfl rfl rfl), ?_⟩) fun vs H Q E h => ?_⟩
  · obtain ⟨ρ, S, ws, rep, rs, hn, o⟩ := h
    refine ⟨ρ, startW N.length ws, S, rep, env_start rs (fun _ _ q => nomatch q), ?_⟩
    unfold runB at o
    show OutS K mg ⟨E, fun _ => none⟩ ρ H (m (startW N.length ws) S) _
    cases e : m (startW N.length ws) S with
    | ok p S1 =>
      obtain ⟨fl, s1⟩ := p
      rw [e] at o
      cases fl with
      | nx => exact fun ρ' H' σ' x rep' env' => o ρ' H' .non x rep' .non
      | rt u => exact o
      | bk => exact o.elim
      | ct => exact o.elim
    | exc c ns ws' S1 => rw [e] at o; exact o
    | bad => rw [e] at o; exact o
  · obtain ⟨ρ, S, ws, us, rep, rs, hn, hz, o⟩ := h
    obtain ⟨v1, v2, rfl, r1, r2⟩ := rs.split
    refine ⟨v1, v2, rfl, by rw [← r1.length]; exact hn, by rw [← r2.length]; exact lim_line hz, fun p hp => ?_⟩
    obtain ⟨e1, rep1⟩ := rep.tree hp (.tup v2)
    exact ⟨ρ, S, ws ++ [.tup us], rep1, (r1.ext e1).append (.cons (.tup (.inl (fx_new rep hp _)) (r2.ext e1)) .nil), by rw [List.length_append, List.length_singleton, hn], Out.ext e1 o⟩
/-- the arguments as the def sees them -/
noncomputable def gStar (np : Nat) (g : Fn) (ws : List W) (S : Store) : Res W := if np ≤ ws.length ∧ ws.length ≤ lim then g (ws.take np ++ [.tup (ws.drop np)]) S else .bad
section
variable {X : Cx} {E : EK} {pos p : Pos} {e : Expr} {es : List Expr} {mr : SM (List W)} {x : Str} {n np k k' : Nat} {g : Fn}
theorem star_sp {σ : L2.St} {H : Hp} {Q : VK} (h : tE X E (mAp (gStar np g) mr) σ H Q) : tA X E mr σ H fun vs H => ∃ ρ S ws us, RepS X.K X.mg ρ H S ∧ RWs X.K X.mg ρ H (ws ++ us) vs ∧ ws.length = np ∧ us.length ≤ lim ∧ Out X.K X.mg (RW X.K X.mg) E ρ H (g (ws ++ [.tup us]) S) Q :=
  tX.bind (m := mr) (k := fun ws s S => gStar np g ws S) h fun ρ1 H1 ws vs s S1 rep env r o => by
    unfold gStar at o
    split at o
    · rename_i hz
      exact ⟨ρ1, S1, ws.take np, ws.drop np, rep, by rw [List.take_append_drop]; exact r, by rw [List.length_take]; omega, by rw [List.length_drop]; exact Nat.le_trans (Nat.sub_le _ _) hz.2, o⟩
    · exact o.elim
theorem pm_callV (F : StarE X.prog X.w X.K X.mg X.base k x np g) (hr : Room k' X.A) (hk : k ≤ k') (tk : Takes X (fun c d _ H => E c d H)) (ha : PAM X E (e :: es) mr)
    (hg : Gl X x := by rfl) (hdb : (x == ("__debug__" : Str)) = false := by decide +kernel) (he : starEach (e :: es) X.env = (false, eval e X.env) :: starEach es X.env := by rfl) (hpl : (backTo pos (starEach es X.env)).any (·.1) = false := by rfl) : PM X E (.Call (.Name x p) (e :: es) [] pos) (mAp (gStar np g) mr) := by
  obtain ⟨f, h1, h2, h3⟩ := F
  refine ⟨fun pins s σ H Q I h => ?_⟩
  refine wpAny_Call_Name_kw (ld_glob I hg h1 ?_ hdb)
  refine PySem.W.callWith_K (h₀ := X.base) I.ok.mod.kin h2 (thn (ha.run pos pins s σ H _ I (star_sp h)) fun us s1 ⟨vs, H1, I1, r, q⟩ => ⟨I1.kIn, ?_⟩) he hpl
  exact wpAny_call (run_fnR h3 (hr.mono hk) (passM tk) I1 r q)
end
/-! ### own operators -/
noncomputable def isIns (c : Str) : W → Bool
  | .ins c' _ _ => c' == c
  | _ => false
noncomputable def isStr : W → Bool
  | .str _ => true
  | _ => false
/-- what a class's operator wants of the text -/
structure OwnOp (K : PySem.W.Frag) (C : Addr) (op : Operator) (f r : Addr) : Prop where
  first : PySem.W.selfFirst K C = true
  fw : PySem.W.findIn K (.ref C) (PySem.dunder op.info.2) = some (some (.ref f))
  fn : PySem.W.isFn K (.ref f) = true
  rw : PySem.W.findIn K (.ref C) (dunderR op.info.2) = some (some (.ref r))
  rn : PySem.W.isFn K (.ref r) = true
  s1 : PySem.W.findIn K (.type "str") (PySem.dunder op.info.2) = some none
  s2 : PySem.W.findIn K (.type "str") (dunderR op.info.2) = some none
  sub : PySem.W.subIn K (.type "str") (.ref C) = some false
noncomputable def gOwn (c : Str) (base : W → W → Store → Res W) (g gr : Fn) (w1 w2 : W) (S : Store) : Res W :=
  if isIns c w1 = true then (if (isIns c w2 || isStr w2) = true then g [w1, w2] S else .bad) else if isIns c w2 = true then (if isStr w1 = true then gr [w2, w1] S else .bad) else base w1 w2 S
section
variable {X : Cx} {E : EK} {c m1 m2 q1 q2 : Str} {k k' : Nat} {st1 st2 : Stmt} {ps1 ps2 : List Str} {g gr : Fn} {base : W → W → Store → Res W}
theorem cmpBack {pins : List (Addr × Obj)} {σ : L2.St} {Q : VK} {v : Value} {s : Shared} (h : EP X pins σ Q v s) : PySem.W.CmpBack (EP X pins σ Q) v s := by
  obtain ⟨x, H', I, r, q⟩ := h
  cases v <;> first | exact ⟨x, H', I, r, q⟩ | (cases x <;> first | (cases (r : _ = _); done) | (obtain ⟨_, e⟩ := (r : ∃ _, _); cases e))
theorem ins_of {K : PySem.W.Frag} {mg : Str → Option Value} {ρ : RT} {H : Hp} {w : W} {x : V} {C : Addr} (hC : mg c = some (.ref C)) (r : RW K mg ρ H w x) (h : isIns c w = true) : ∃ a dx fs, x = .ref a ∧ H a = some (.ins C dx fs) := by
  cases w with
  | ins c' ns ws =>
    have h : c' = c := by simpa [isIns] using h
    subst h
    cases r with | ins hc hf hl hr => rw [hC] at hc; cases hc; exact ⟨_, _, _, rfl, hf.1⟩
  | _ => cases h
theorem inst_of {pins : List (Addr × Obj)} {σ : L2.St} {H : Hp} {s : Shared} {a C dx : Addr} {fs : List (Str × V)} (I : Inv X pins σ H s) (h : H a = some (.ins C dx fs)) : ∃ ox od, PySem.W.InstAt s.heap a ox C od ∧ ox.data = .plain := by
  obtain ⟨mA, J, _⟩ := ins_get I.hok h
  obtain ⟨od, J, _⟩ := J.look
  exact ⟨_, _, J, rfl⟩
theorem om_own {op : Operator} (hop : ∀ f r C, X.mg c = some (.ref C) → Meth X.K C m1 f → Meth X.K C m2 r → OwnOp X.K C op f r) (F1 : MeE X.prog X.w X.K X.mg X.base k c m1 q1 st1 ps1 g) (F2 : MeE X.prog X.w X.K X.mg X.base k c m2 q2 st2 ps2 gr)
    (hr : Room k' X.A) (hk : k ≤ k') (tk : Takes X (fun c d _ H => E c d H)) (hn1 : ps1.length = 2) (hn2 : ps2.length = 2) (hb : OpM X E (binaryOp op) base) : OpM X E (binaryOp op) (gOwn c base g gr) := by
  intro pins s σ H x y v u Q I rx ry ⟨ρ, S, w1, w2, rep, r1, r2, o⟩
  obtain ⟨C, f, fd, a1, a2, a3, a4, a5, a6⟩ := F1
  obtain ⟨C', f', fd', b1, b2, b3, b4, b5, b6⟩ := F2
  rw [a1] at b1; cases b1
  have O := hop f f' C a1 a3 b3
  rw [hn1] at a6
  rw [hn2] at b6
  unfold gOwn at o
  obtain ⟨m, hF⟩ := I.fr
  split at o
  · rename_i h1
    split at o
    · rename_i h2
      obtain ⟨a, dx, fs, rfl, ha⟩ := ins_of a1 r1 h1
      obtain ⟨ox, od, J, _⟩ := inst_of I ha
      obtain rfl : v = Value.ref a := rx
      have call : wpAny (model X.prog X.w) X.A (call (.ref f) [.ref a, u]) (PySem.W.CmpBack (EP X pins σ Q)) X.xe s :=
        thn (run_fn (us := [.ref a, u]) (vs := [.ref a, y]) a6 (hr.mono hk) a5 .nil (passM tk) I (.cons rfl (.cons ry .nil)) ⟨ρ, S, [w1, w2], rep, .cons r1 (.cons r2 .nil), rfl, o⟩) fun v s' h => cmpBack h
      rw [Bool.or_eq_true] at h2
      rcases h2 with h2 | h2
      · obtain ⟨a', dx', fs', rfl, ha'⟩ := ins_of a1 r2 h2
        obtain ⟨ox', od', J', _⟩ := inst_of I ha'
        obtain rfl : u = Value.ref a' := ry
        exact PySem.W.binop_K hF I.ok.mod.kin J J'.type O.first O.fw O.fn call
      · cases w2 with
        | str z =>
          cases r2
          obtain ⟨t, rfl⟩ := ry
          exact PySem.W.ksp_binT (T := "str") hF I.ok.mod.kin J rfl O.first O.fw O.fn O.rw (.inr ⟨_, rfl⟩) O.s1 O.s2 O.sub call
        | _ => cases h2
    · exact o.elim
  · split at o
    · rename_i h2
      split at o
      · rename_i h3
        obtain ⟨a, dx, fs, rfl, ha⟩ := ins_of a1 r2 h2
        obtain ⟨ox, od, J, _⟩ := inst_of I ha
        obtain rfl : u = Value.ref a := ry
        have call : wpAny (model X.prog X.w) X.A (call (.ref f') [.ref a, v]) (PySem.W.CmpBack (EP X pins σ Q)) X.xe s :=
          thn (run_fn (us := [.ref a, v]) (vs := [.ref a, x]) b6 (hr.mono hk) b5 .nil (passM tk) I (.cons rfl (.cons rx .nil)) ⟨ρ, S, [w2, w1], rep, .cons r2 (.cons r1 .nil), rfl, o⟩) fun v s' h => cmpBack h
        cases w1 with
        | str z =>
          cases r1
          obtain ⟨t, rfl⟩ := rx
          exact PySem.W.rm_rbinT (T := "str") hF I.ok.mod.kin J rfl O.first O.fw O.rw O.rn O.s1 O.s2 call
        | _ => cases h3
      · exact o.elim
    · exact hb pins s σ H x y v u Q I rx ry ⟨ρ, S, w1, w2, rep, r1, r2, o⟩
/-- ~x -/
noncomputable def gInv (c : Str) (g : Fn) (w : W) (S : Store) : Res W := if isIns c w = true then g [w] S else .bad
theorem um_inv {q : Str} {st : Stmt} {ps : List Str} (F : MeE X.prog X.w X.K X.mg X.base k c "__invert__" q st ps g) (hr : Room k' X.A) (hk : k ≤ k') (tk : Takes X (fun c d _ H => E c d H)) (hn : ps.length = 1) : UnM X E (unaryOp .Invert) (gInv c g) := by
  intro pins s σ H x v Q I rx ⟨ρ, S, w, rep, r, o⟩
  obtain ⟨C, f, fd, a1, a2, a3, a4, a5, a6⟩ := F
  rw [hn] at a6
  unfold gInv at o
  obtain ⟨m, hF⟩ := I.fr
  split at o
  · rename_i h1
    obtain ⟨a, dx, fs, rfl, ha⟩ := ins_of a1 r h1
    obtain ⟨ox, od, J, _⟩ := inst_of I ha
    obtain rfl : v = Value.ref a := rx
    exact PySem.W.ksp_inv hF I.ok.mod.kin J a3.at_ a3.fn (run_fn (us := [.ref a]) (vs := [.ref a]) a6 (hr.mono hk) a5 .nil (passM tk) I (.cons rfl .nil) ⟨ρ, S, [w], rep, .cons r .nil, rfl, o⟩)
  · exact o.elim
end
end RL
end
section
set_option maxRecDepth 100000
set_option maxHeartbeats 4000000
namespace RL
open PySem PySem.Spec L2 OrdX
open PyProof.Rows hiding St
variable [Lams]
/-! ### isinstance with an own class -/
noncomputable abbrev tys7 : List String := ["NoneType", "bool", "int", "str", "tuple", "list", "dict"]
noncomputable abbrev tys6 : List String := ["bool", "int", "str", "tuple", "list", "dict"]
structure IsT (K : PySem.W.Frag) (mg : Str → Option Value) (c : Str) : Prop where
  ex : ∃ C, mg c = some (.ref C) ∧ (∀ a ∈ tys7, PySem.W.kitOne K (.type a) (.ref C) = some false) ∧ PySem.W.kitOne K (.ref C) (.ref C) = some true ∧ (∀ b ∈ tys6, PySem.W.kitOne K (.ref C) (.type b) = some false) ∧
    Cls K C ∧ PySem.W.findIn K (.ref C) "__class__" = some (some (.builtin "object.__class__")) ∧
    PySem.W.specialIn K (.builtin "object.__class__") "__get__" = some (some (.builtin "getset_descriptor.__get__")) ∧ PySem.W.takesIn K (.builtin "object.__class__") = some true ∧ PySem.W.mroIn K C (.type "object") = some true
noncomputable def ktC (c : Str) : KT := fun t d => match t, d with
  | .ty a, .gl d => if d = c ∧ a ∈ tys7 then some false else none
  | .gl a, .gl d => if a = c ∧ d = c then some true else none
  | .gl a, .ty b => if a = c ∧ b ∈ tys6 then some false else none
  | t, d => ktB t d
theorem ktC_ok {K : PySem.W.Frag} {mg : Str → Option Value} {c : Str} (T : IsT K mg c) : KtOk K mg (ktC c) where
  one := fun t d b tv cv h ht hc => by
    obtain ⟨C, hC, h1, h2, h3, _⟩ := T.ex
    cases ht with
    | ty n =>
      cases hc with
      | ty m => exact ktB_ok.one (.ty n) (.ty m) b _ _ h (.ty n) (mg := mg) (.ty m)
      | @gl x a hg =>
        replace h : (if x = c ∧ n ∈ tys7 then some false else none) = some b := h
        split at h
        · rename_i hz
          obtain ⟨rfl, hz⟩ := hz
          cases h
          rw [hC] at hg; cases hg
          exact h1 n hz
        · cases h
    | @gl x a hg =>
      cases hc with
      | ty m =>
        replace h : (if x = c ∧ m ∈ tys6 then some false else none) = some b := h
        split at h
        · rename_i hz
          obtain ⟨rfl, hz⟩ := hz
          cases h
          rw [hC] at hg; cases hg
          exact h3 m hz
        · cases h
      | @gl y a' hg' =>
        replace h : (if x = c ∧ y = c then some true else none) = some b := h
        split at h
        · rename_i hz
          obtain ⟨rfl, rfl⟩ := hz
          cases h
          rw [hC] at hg hg'; cases hg; cases hg'
          exact h2
        · cases h
  ins := fun d D hD ⟨e, b, h⟩ => by
    obtain ⟨C, hC, h1, h2, h3, h4⟩ := T.ex
    have : d = c := by
      cases e with
      | ty m =>
        replace h : (if d = c ∧ m ∈ tys6 then some false else none) = some b := h
        split at h
        · rename_i hz; exact hz.1
        · cases h
      | gl y =>
        replace h : (if d = c ∧ y = c then some true else none) = some b := h
        split at h
        · rename_i hz; exact hz.1
        · cases h
      | _ => cases h
    subst this
    rw [hC] at hD; cases hD
    exact h4
/-! ### the text's facts, made -/
noncomputable def ClsT (K : PySem.W.Frag) (mg : Str → Option Value) (c : Str) : Prop := ∃ C, mg c = some (.ref C) ∧ Cls K C
/-- the body of a class -/
noncomputable def clsB : Stmt → List Stmt
  | .ClassDef _ _ _ b _ _ _ _ _ _ _ => b
  | _ => []
section
variable {K : PySem.W.Frag} {mg : Str → Option Value} {h : Heap} {c m q f : Str} {C g : Addr} {st : Stmt} {ps ns : List Str}
theorem clsT_mk (X : K.In h) (G : h.Ns mainGlobals mg) (a : PySem.W.nsIn K mainGlobals c = some (some (.ref C))) (pg : PySem.W.plainGet K C Str.empty = true) (hd : PySem.W.hasDictIn K C = true) (po : PySem.W.plainOver K C = true)
    (sa : PySem.W.findIn K (.ref C) "__setattr__" = some (some (.builtin "object.__setattr__"))) : ClsT K mg c := ⟨C, PySem.W.mg_of X G a, pg, hd, po, sa⟩
theorem ClsT.at (T : ClsT K mg c) (h : mg c = some (.ref C)) : Cls K C := by
  obtain ⟨D, h1, h2⟩ := T
  rw [h] at h1; cases h1
  exact h2
theorem kconC_mk (X : K.In h) (G : h.Ns mainGlobals mg) (a : PySem.W.nsIn K mainGlobals c = some (some (.ref C))) : KCon K mg c (.gl c) := kcon_cls (PySem.W.mg_of X G a)
theorem fldT_mk (X : K.In h) (G : h.Ns mainGlobals mg) (a : PySem.W.nsIn K mainGlobals c = some (some (.ref C))) (T : ClsT K mg c) (n : PySem.W.findIn K (.ref C) f = some none) : FldT K mg c f :=
  ⟨C, PySem.W.mg_of X G a, T.at (PySem.W.mg_of X G a), n⟩
theorem kit_own {K : PySem.W.Frag} {a : String} {C : Addr} (h1 : PySem.W.isClsIn K C = true) (h2 : PySem.W.typeIn K (.ref C) = some (.type "type")) {b : Bool} (h3 : PySem.W.subIn K (.type a) (.ref C) = some b) : PySem.W.kitOne K (.type a) (.ref C) = some b := by
  have hne : (Value.type a == Value.ref C) = false := Bool.eq_false_iff.mpr fun q => by cases beq_iff_eq.mp q
  unfold PySem.W.kitOne PySem.W.kitCls
  rw [hne, if_neg Bool.false_ne_true]
  dsimp only
  rw [show (PySem.W.clsIn K C).isSome = true from h1, h2, Bool.true_and, if_pos (beq_self_eq_true _)]
  exact h3
theorem kit_self {K : PySem.W.Frag} {C : Addr} : PySem.W.kitOne K (.ref C) (.ref C) = some true := by
  unfold PySem.W.kitOne
  rw [if_pos (beq_self_eq_true _)]
theorem kit_out {K : PySem.W.Frag} {a : String} {C : Addr} {b : Bool} (hm : PySem.W.kitMeta a = true) (h3 : PySem.W.subIn K (.ref C) (.type a) = some b) : PySem.W.kitOne K (.ref C) (.type a) = some b := by
  have hne : (Value.ref C == Value.type a) = false := Bool.eq_false_iff.mpr fun q => by cases beq_iff_eq.mp q
  unfold PySem.W.kitOne PySem.W.kitCls
  rw [hne, if_neg Bool.false_ne_true]
  dsimp only
  rw [if_pos hm]
  exact h3
theorem isT_mk (X : K.In h) (G : h.Ns mainGlobals mg) (a : PySem.W.nsIn K mainGlobals c = some (some (.ref C))) (T : ClsT K mg c) (c1 : PySem.W.isClsIn K C = true) (c2 : PySem.W.typeIn K (.ref C) = some (.type "type"))
    (h1 : PySem.W.subIn K (.type "NoneType") (.ref C) = some false) (h2 : PySem.W.subIn K (.type "bool") (.ref C) = some false) (h3 : PySem.W.subIn K (.type "int") (.ref C) = some false) (h4 : PySem.W.subIn K (.type "str") (.ref C) = some false)
    (h5 : PySem.W.subIn K (.type "tuple") (.ref C) = some false) (h6 : PySem.W.subIn K (.type "list") (.ref C) = some false) (h7 : PySem.W.subIn K (.type "dict") (.ref C) = some false)
    (g2 : PySem.W.subIn K (.ref C) (.type "bool") = some false) (g3 : PySem.W.subIn K (.ref C) (.type "int") = some false) (g4 : PySem.W.subIn K (.ref C) (.type "str") = some false)
    (g5 : PySem.W.subIn K (.ref C) (.type "tuple") = some false) (g6 : PySem.W.subIn K (.ref C) (.type "list") = some false) (g7 : PySem.W.subIn K (.ref C) (.type "dict") = some false)
    (k1 : PySem.W.findIn K (.ref C) "__class__" = some (some (.builtin "object.__class__"))) (k2 : PySem.W.specialIn K (.builtin "object.__class__") "__get__" = some (some (.builtin "getset_descriptor.__get__"))) (k3 : PySem.W.takesIn K (.builtin "object.__class__") = some true) (k4 : PySem.W.mroIn K C (.type "object") = some true) : IsT K mg c := by
  refine ⟨C, PySem.W.mg_of X G a, fun a m => ?_, kit_self, fun a m => ?_, T.at (PySem.W.mg_of X G a), k1, k2, k3, k4⟩
  · refine kit_own c1 c2 ?_
    simp only [tys7, List.mem_cons, List.not_mem_nil, or_false] at m
    rcases m with rfl | rfl | rfl | rfl | rfl | rfl | rfl <;> assumption
  · have hm : ∀ b ∈ tys6, PySem.W.kitMeta b = true := by decide +kernel
    refine kit_out (hm a m) ?_
    simp only [tys6, List.mem_cons, List.not_mem_nil, or_false] at m
    rcases m with rfl | rfl | rfl | rfl | rfl | rfl <;> assumption
section
variable {oc : Value} {od an : Option Addr} {sl : Array (Option Value)} {kV dc pm cd ct : Value}
theorem mtx_mk (X : K.In h) (G : h.Ns mainGlobals mg) (a : PySem.W.nsIn K mainGlobals c = some (some (.ref C))) (T : ClsT K mg c) (at_ : PySem.W.findIn K (.ref C) m = some (some (.ref g))) (fn : PySem.W.isFn K (.ref g) = true)
    (l : K.lookup g = some ⟨oc, od, .func (PySem.W.fnOf m q (defArgs st) (defBody st) (defScope st) .none kV dc pm an cd ct), sl⟩) (cod : PySem.W.codeIn K cd q = true) (k : PySem.W.keepIn K (.ref g) = true)
    (hb : ∀ (kV doc pm : Value) (an : Option Addr) (cdv ct : Value) (us : List Value), us.length = ps.length → bindArgs (PySem.W.fnOf m q (defArgs st) (defBody st) (defScope st) .none kV doc pm an cdv ct) ⟨us, []⟩ = pure (ps.zip us)) : MTx K mg c m q st ps :=
  let F := fun_mk (st := st) l cod k
  ⟨C, g, _, PySem.W.mg_of X G a, T.at (PySem.W.mg_of X G a), ⟨at_, fn, k⟩, F, F.binds hb⟩
theorem mkx_mk (X : K.In h) (G : h.Ns mainGlobals mg) (a : PySem.W.nsIn K mainGlobals c = some (some (.ref C))) (T : ClsT K mg c) (mk : PySem.W.makesIn K C = true) (at_ : PySem.W.findIn K (.ref C) "__init__" = some (some (.ref g))) (fn : PySem.W.isFn K (.ref g) = true) (kc : PySem.W.keepIn K (.ref C) = true)
    (l : K.lookup g = some ⟨oc, od, .func (PySem.W.fnOf "__init__" q (defArgs st) (defBody st) (defScope st) .none kV dc pm an cd ct), sl⟩) (cod : PySem.W.codeIn K cd q = true) (k : PySem.W.keepIn K (.ref g) = true)
    (hb : ∀ (kV doc pm : Value) (an : Option Addr) (cdv ct : Value) (us : List Value), us.length = ps.length → bindArgs (PySem.W.fnOf "__init__" q (defArgs st) (defBody st) (defScope st) .none kV doc pm an cdv ct) ⟨us, []⟩ = pure (ps.zip us))
    (hf : ∀ n ∈ ns, FldT K mg c n) : MkTx K mg c q st ps ns :=
  let F := fun_mk (st := st) l cod k
  ⟨C, g, _, PySem.W.mg_of X G a, T.at (PySem.W.mg_of X G a), ⟨mk, at_, fn, kc⟩, F, F.binds hb, fun n m => by
    obtain ⟨D, h1, h2, h3⟩ := hf n m
    rw [PySem.W.mg_of X G a] at h1; cases h1
    exact h3⟩
theorem stx_mk {p : Addr} {mc : Value} {rest : List Value} (X : K.In h) (G : h.Ns mainGlobals mg) (a : PySem.W.nsIn K mainGlobals c = some (some (.ref C))) (ty : PySem.W.typeIn K (.ref C) = some mc) (rd : PySem.W.readsIn K C mc = true) (ga : PySem.W.specialIn K (.ref C) "__getattribute__" = some (some (.builtin "type.__getattribute__")))
    (e : PySem.W.findCls K (.ref C) mc m = some (.get (.builtin "staticmethod.__get__") (.ref p) .none (.ref C))) (hp : PySem.W.recIn K p "staticmethod" = some (.ref g :: rest))
    (l : K.lookup g = some ⟨oc, od, .func (PySem.W.fnOf m q (defArgs st) (defBody st) (defScope st) .none kV dc pm an cd ct), sl⟩) (cod : PySem.W.codeIn K cd q = true) (k : PySem.W.keepIn K (.ref g) = true)
    (hb : ∀ (kV doc pm : Value) (an : Option Addr) (cdv ct : Value) (us : List Value), us.length = ps.length → bindArgs (PySem.W.fnOf m q (defArgs st) (defBody st) (defScope st) .none kV doc pm an cdv ct) ⟨us, []⟩ = pure (ps.zip us)) : StTx K mg c m q st ps :=
  let F := fun_mk (st := st) l cod k
  ⟨C, g, _, PySem.W.mg_of X G a, ⟨mc, p, rest, ⟨rd, ga⟩, e, hp⟩, F, F.binds hb⟩
theorem startx_mk {x pv : Str} (X : K.In h) (G : h.Ns mainGlobals mg) (a : PySem.W.nsIn K mainGlobals x = some (some (.ref g))) (k : PySem.W.keepIn K (.ref g) = true)
    (l : K.lookup g = some ⟨oc, od, .func (PySem.W.fnOf x x (defArgs st) (defBody st) (defScope st) .none kV dc pm an cd ct), sl⟩) (cod : PySem.W.codeIn K cd x = true)
    (hb : ∀ us rest : List Value, us.length = ps.length → bindArgs (PySem.W.fnOf x x (defArgs st) (defBody st) (defScope st) .none kV dc pm an cd ct) ⟨us ++ rest, []⟩ = (newTuple rest >>= fun t => pure (ps.zip us ++ [(pv, t)]))) : StarTx K mg x st ps pv :=
  ⟨g, oc, od, kV, dc, pm, an, cd, ct, sl, PySem.W.mg_of X G a, k, l, cod, hb⟩
end
theorem ownOp_mk {op : Operator} {C0 : Addr} {m1 m2 : Str} (X : K.In h) (G : h.Ns mainGlobals mg) (a : PySem.W.nsIn K mainGlobals c = some (some (.ref C0))) (first : PySem.W.selfFirst K C0 = true) (e1 : PySem.dunder op.info.2 = m1) (e2 : dunderR op.info.2 = m2)
    (s1 : PySem.W.findIn K (.type "str") m1 = some none) (s2 : PySem.W.findIn K (.type "str") m2 = some none) (sub : PySem.W.subIn K (.type "str") (.ref C0) = some false) :
    ∀ f r C, mg c = some (.ref C) → Meth K C m1 f → Meth K C m2 r → OwnOp K C op f r := fun f r C hC M1 M2 => by
  have h0 := PySem.W.mg_of X G a
  rw [hC] at h0; cases h0
  exact ⟨first, by rw [e1]; exact M1.at_, M1.fn, by rw [e2]; exact M2.at_, M2.fn, by rw [e1]; exact s1, by rw [e2]; exact s2, sub⟩
theorem kdtab_mk {x : Str} {w : World} {p : Addr} {es : Array DictEntry} {n : Nat} {tab : List (Str × Str)} (X : K.In h) (G : h.Ns mainGlobals mg) (a : PySem.W.nsIn K mainGlobals x = some (some (.ref p))) (l : K.lookup p = some ⟨.type "dict", none, .dict es n, #[]⟩) (k : PySem.W.KeysLit w.params es.toList)
    (ht : ∀ kv ∈ tab, ∃ t, PySem.W.nsIn K p kv.1 = some (some (.str kv.2 t))) : KDTab K mg w x tab := by
  refine ⟨p, PySem.W.mg_of X G a, fun k' v e => ?_⟩
  have mem : (k', v) ∈ tab := by
    clear ht
    induction tab with
    | nil => cases e
    | cons q r ih =>
      obtain ⟨k0, v0⟩ := q
      rw [List.lookup_cons] at e
      cases hk : k' == k0 with
      | true => rw [hk] at e; cases e; rw [eq_of_beq hk]; exact List.mem_cons_self
      | false => rw [hk] at e; exact List.mem_cons_of_mem _ (ih e)
  obtain ⟨t, h1⟩ := ht _ mem
  exact ⟨es, n, _, l, k, h1, ⟨t, rfl⟩⟩
end
/-! ### no operator at all -/
theorem om_no {X : Cx} {E : EK} {f : Value → Value → Sem Value} : OpM X E f (fun _ _ _ => .bad) := by
  intro pins s σ H x y v u Q I rx ry ⟨ρ, S, w1, w2, rep, r1, r2, o⟩
  exact o.elim
end RL
end
section
set_option maxRecDepth 100000
set_option maxHeartbeats 4000000
/-! sets of texts made of lists, sorted -/
namespace RT
open PySem PySem.Spec PyProof.Rows L2 PySem.Froz OrdX
/-- at a stands a set whose members are the texts L -/
structure TS (P : Program) (w : World) (h : Heap) (a : Addr) (L : List Str) : Prop where
  nd : L.Nodup
  at_ : ∃ D : SD, h.get? a = some (sObj "set" D) ∧ TxOk P w D L ∧ Ris D.2.2.place.toList ∧ (w.params.followText "set-order" = true ∨ D.2.2.led = true)
section
variable {P : Program} {w : World} {A : Around} {E : Value → Shared → Prop} {s : Shared} {a : Addr} {L : List Str}
theorem TS.at' {h h' : Heap} (T : TS P w h a L) (k : ∀ o, h.get? a = some o → h'.get? a = some o) : TS P w h' a L :=
  ⟨T.nd, by obtain ⟨D, h0, r⟩ := T.at_; exact ⟨D, k _ h0, r⟩⟩
theorem strs_get : ∀ {vs : List Value} {xs : List Str}, StrsAre vs xs → ∀ (i : Nat) (v : Value), vs[i]? = some v → ∃ x u, xs[i]? = some x ∧ v = .str x u
  | _, _, .cons x t _, 0, v, h => by cases Option.some.inj h; exact ⟨x, t, rfl, rfl⟩
  | _, _, .cons _ _ r, i + 1, v, h => strs_get r i v (by simpa using h)
theorem TS.new {h : Heap} (e : h.get? a = some (RS.emp w)) : TS P w h a [] := by
  refine ⟨List.nodup_nil, ⟨(#[], 0, .fresh 0 0 (!w.params.followText "set-order")), e, TxOk.nil rfl, List.Pairwise.nil, ?_⟩⟩
  show _ ∨ (!w.params.followText "set-order") = true
  cases w.params.followText "set-order" with
  | true => exact .inl rfl
  | false => exact .inr rfl
theorem addTx_ris {D : SD} (h : Int) (v : Value) (r : Ris D.2.2.place.toList) : Ris (addTx h v D).2.2.place.toList := by
  have r1 := layNew_ris D.2.2 D.1 h v r
  unfold addTx tailTx
  have r2 : Ris (if (layNew D.2.2 D.1 h v).2.1.plain = true then { (layNew D.2.2 D.1 h v).2.1 with plain := false } else (layNew D.2.2 D.1 h v).2.1).place.toList := by
    cases (layNew D.2.2 D.1 h v).2.1.plain <;> exact r1
  revert r2
  generalize (if (layNew D.2.2 D.1 h v).2.1.plain = true then { (layNew D.2.2 D.1 h v).2.1 with plain := false } else (layNew D.2.2 D.1 h v).2.1) = t2
  intro r2
  cases (!(layNew D.2.2 D.1 h v).2.2.1 && t2.tooFull) with
  | true => exact relayAll_ris _ _ _
  | false => exact r2
theorem addTx_led {D : SD} (h : Int) (v : Value) (r : D.2.2.led = true) : (addTx h v D).2.2.led = true := by
  have r1 : (layNew D.2.2 D.1 h v).2.1.led = true := (layNew_led D.2.2 D.1 h v).trans r
  unfold addTx tailTx
  have r2 : (if (layNew D.2.2 D.1 h v).2.1.plain = true then { (layNew D.2.2 D.1 h v).2.1 with plain := false } else (layNew D.2.2 D.1 h v).2.1).led = true := by
    cases (layNew D.2.2 D.1 h v).2.1.plain <;> exact r1
  revert r2
  generalize (if (layNew D.2.2 D.1 h v).2.1.plain = true then { (layNew D.2.2 D.1 h v).2.1 with plain := false } else (layNew D.2.2 D.1 h v).2.1) = t2
  intro r2
  cases (!(layNew D.2.2 D.1 h v).2.2.1 && t2.tooFull) with
  | true => exact (relayAll_led _ _ _).trans r2
  | false => exact r2
/-- one more text goes in -/
theorem put {k : Str} {u : Tok} {Q : Bool → Shared → Prop} (T : TS P w s.heap a L) (room : L.length + 1 < scanBound)
    (h : ∀ g L' b, TS P w g a L' → (∀ z, z ∈ L' ↔ z = k ∨ z ∈ L) → L'.length ≤ L.length + 1 → (∀ b, b ≠ a → g.get? b = s.heap.get? b) → Q b { s with heap := g }) :
    wpAny (model P w) A (setAddHashed a (.str k u) (hashStr w k)) Q E s := by
  obtain ⟨D, h0, F, r, l⟩ := T.at_
  by_cases hk : k ∈ L
  · have stay := h s.heap L false T (fun z => ⟨.inr, fun q => q.elim (fun e => e ▸ hk) id⟩) (Nat.le_succ _) fun _ _ => rfl
    obtain ⟨e, he, q⟩ := (F.mem k).mp hk
    obtain ⟨es, ep, t⟩ := D
    have fits : t.fits es.size = true := F.fit
    have small : es.size < scanBound := by have := F.sz; dsimp only at this; omega
    unfold setAddHashed setAddHashedIn
    refine wpAny_holding (wpAny_bind (wpAny_setState_of h0 rfl fits ?_))
    dsimp only
    rw [byScan_of rfl small F.el]
    unfold setAddByScan
    refine wpAny_bind (wpAny_bind (wpAny_rule (wpAny_bind (wpAny_setScan_of (knd := strKind P w) (is_str k u) h0 rfl fits F.el ?_))))
    cases hf : List.findIdx? (fun e => (strKind P w).is k e.2) es.toList with
    | none =>
      have no := List.findIdx?_eq_none_iff.mp hf e he
      rw [q] at no
      cases no
    | some j => exact wpAny_pure (wpAny_pure stay)
  · refine add_x h0 F hk room ?_
    refine h _ (k :: L) true ⟨List.nodup_cons.mpr ⟨hk, T.nd⟩, _, get_upd _ h0 rfl, add_ok u F, addTx_ris _ _ r, l.imp id fun z => addTx_led _ _ z⟩ (fun z => List.mem_cons) (Nat.le_refl _) fun b hb => ?_
    exact Heap.get?_update_ne _ _ _ _ hb
/-- the walk of set(xs): each item goes in -/
theorem loop {I : Addr} {fp wr : List Addr} {G : Array GenState → Array GenState → Prop} {n : Nat} {Pv : Nat → Value → Prop} {St : Nat → Shared → Prop} {R : Result → Shared → Prop}
    (W : WalksS P w A.in1 I fp wr G n Pv St) (hp : a ∉ fp) (xs : List Str) (hn : n = xs.length) (hb : xs.length + 1 < scanBound) (val : ∀ i v, Pv i v → ∃ x u, xs[i]? = some x ∧ v = .str x u)
    (fin : ∀ s' L, Moved (a :: wr) G s s' → TS P w s'.heap a L → (∀ z, z ∈ L ↔ z ∈ xs) → L.length ≤ xs.length → R (.ok (.ret .none)) s') :
    ∀ (m i : Nat) (t : Shared) (L : List Str), n - i = m → i ≤ n → St i t → Moved (a :: wr) G s t → TS P w t.heap a L → (∀ z, z ∈ L ↔ z ∈ xs.take i) → L.length ≤ i →
      codeAny (model P w) A (.builtin "set.update.loop" ⟨[.ref a, .ref I], []⟩) R t := by
  have out : a ∉ wr := fun z => hp (W.sub _ z)
  have up : ∀ b ∈ wr, b ∈ a :: wr := fun b hb => List.mem_cons_of_mem _ hb
  intro m
  induction m with
  | zero =>
    intro i t L hm hi st mv T mem len
    have e : i = n := by omega
    refine codeAny_builtin F.entry_set_update_loop ?_
    rw [Around.under_plainId F.plain_set_update_loop _]
    unfold Builtin.«set.update.loop»
    refine wpAny_bind (W.done t _ _ (e ▸ st) fun s' mv' => ?_)
    refine wpAny_pure (fin s' L ?_ (T.at' fun o ho => mv'.heap a o out ho) (fun z => ?_) (by omega))
    · exact mv.trans W.gtrans (mv'.mono up)
    · rw [mem z, List.take_of_length_le (by omega)]
  | succ m ih =>
    intro i t L hm hi st mv T mem len
    refine codeAny_builtin F.entry_set_update_loop ?_
    rw [Around.under_plainId F.plain_set_update_loop _]
    unfold Builtin.«set.update.loop»
    refine wpAny_bind (W.item i t _ _ (by omega) st fun v t1 pv st1 mv1 => ?_)
    obtain ⟨x, u, hx, rfl⟩ := val i v pv
    have T1 : TS P w t1.heap a L := T.at' fun o ho => mv1.heap a o out ho
    dsimp only
    unfold setAdd
    refine wpAny_bind (wpAny_holding (wpAny_holding (wpAny_bind ((strKind P w).pyHash (k := x) (is_str x u) ?_))))
    refine put (s := { t1 with toks := t1.toks + 1 }) T1 (by omega) fun g L' b T2 mem' len' far => ?_
    have mv2 : Moved (a :: wr) G s { t1 with heap := g, toks := t1.toks + 1 } := Moved.trans W.gtrans mv ((mv1.mono up).then_heap (Nat.le_succ _) fun b o hb e => by
      rw [far b (fun z => hb (by rw [z]; exact List.mem_cons_self))]; exact e)
    refine wpAny_pure ⟨plainId_quiet F.plain_set_update_loop _, ih (i + 1) _ L' (by omega) (by omega) (W.frame _ t1 _ _ st1 (Nat.le_succ _) fun b hb o e => ?_) mv2 T2 (fun z => ?_) (by omega)⟩
    · rw [far b (fun z => hp (by rw [← z]; exact hb))]; exact e
    · rw [mem' z, mem z, List.take_add_one, hx]
      simp [or_comm]
theorem perm_of : ∀ (L ks : List Str), L.Nodup → (∀ x ∈ L, x ∈ ks) → ks.length ≤ L.length → ks.Perm L
  | [], ks, _, _, h => by
    have : ks = [] := List.eq_nil_of_length_eq_zero (by simpa using h)
    rw [this]
  | x :: L, ks, nd, sub, h => by
    obtain ⟨n1, n2⟩ := List.nodup_cons.mp nd
    have p := List.perm_cons_erase (sub x List.mem_cons_self)
    refine p.trans (.cons x (perm_of L (ks.erase x) n2 (fun y hy => ?_) ?_))
    · exact (List.mem_erase_of_ne (fun e : y = x => n1 (by rw [← e]; exact hy))).mpr (sub y (List.mem_cons_of_mem _ hy))
    · have := p.length_eq
      simp only [List.length_cons] at this h
      omega
/-- sorted(s) -/
theorem sorted_ts {Q : Value → Shared → Prop} (T : TS P w s.heap a L) (hh : A.handled = none) (h64 : L.length < 64)
    (hQ : ∀ s' p (out : List Value) (c : Nat) (ys : List Str), (∀ b o, s.heap.get? b = some o → s'.heap.get? b = some o) → s'.gens = s.gens → s'.os = s.os → s.heap.objs.size ≤ p →
      s'.heap.get? p = some (seqObj "list" out.toArray c) → StrsAre out ys → ys.Perm L → sortedS ys = true → Q (.ref p) s') :
    wpAny (model P w) A (call (.builtin "sorted") [.ref a]) Q E s := by
  obtain ⟨⟨es, ep, t⟩, h0, F, r, l⟩ := T.at_
  have sz : es.size = L.length := F.sz
  refine Calls.call_function_entry kind_sorted plain_sorted entry_sorted (args_sorted1 _) ?_
  unfold Builtin.«sorted»
  refine wpAny_bind (m := checkCount "sorted" 1 1 _) (wpAny_pure ?_)
  refine wpAny_bind (collect_set (A := A.in1) hh ⟨_, h0, rfl, rfl⟩ F.fit (by rw [sz]; unfold scanBound; omega) r l fun s1 vs k1 z1 g1 o1 pm => ?_)
  have len : vs.length = L.length := by rw [pm.length_eq, List.length_map, Array.length_toList, sz]
  have allS : ∀ v, v ∈ vs → ∃ x u, v = .str x u := fun v hv => by
    obtain ⟨e, he, rfl⟩ := List.mem_map.mp (pm.mem_iff.mp hv)
    obtain ⟨⟨k, q, _⟩, _⟩ := F.el e he
    obtain ⟨u, ev⟩ := Value.isStrOf_shape (x := k) (v := e.2) q
    exact ⟨k, u, ev⟩
  have S := strsAre_map vs allS
  have pL : (vs.map strOf).Perm L := perm_of L _ T.nd (fun x hx => by
    obtain ⟨e, he, q⟩ := (F.mem x).mp hx
    obtain ⟨u, ev⟩ := Value.isStrOf_shape (x := x) (v := e.2) q
    refine List.mem_map.mpr ⟨e.2, pm.mem_iff.mpr (List.mem_map.mpr ⟨e, he, rfl⟩), ?_⟩
    rw [ev] <;> rfl) (by rw [List.length_map, len]; exact Nat.le_refl _)
  refine wpAny_bind (wpAny_newList ?_ (by rw [len, sizeLine_eq]; omega))
  have new : (s1.heap.push (seqObj "list" vs.toArray 0)).get? s1.heap.objs.size = some (seqObj "list" vs.toArray 0) := Heap.get?_push_size _ rfl
  refine wpAny_bind (wpAny_holding (wpAny_call_entry slot_list_sort ⟨_, new, rfl⟩ entry_list_sort (list_sort_treeK strKind_oneLt new S.keysOf (fun v₁ v₂ rest e => keyKind_strs (by rw [← e]; exact S)) (by rw [len]; exact h64) fun st hp hs => ⟨_, rfl, ?_⟩) (args_list_sort _)))
  obtain ⟨ys, y1, y2, y3⟩ := sorted_out_str S hp hs
  obtain ⟨c, hc⟩ := sortedHeap_at (vs := vs) (out := (arrOf st).map (·.2)) new
  refine wpAny_pure ⟨_, rfl, hQ _ s1.heap.objs.size ((arrOf st).map (·.2)).toList c ys (fun b u e => ?_) g1 o1 z1 hc y1 (y2.trans pL) y3⟩
  have e1 := k1 b u e
  have lt := Heap.lt_size e1
  show (sortedHeap _ _ _ _).get? b = some u
  rw [sortedHeap_old (Nat.ne_of_lt lt) (by rw [size_push']; exact Nat.lt_succ_of_lt lt)]
  exact Heap.get?_push_of_some _ e1
end
end RT
namespace RL
open PySem PySem.Spec L2 OrdX
open PyProof.Rows hiding St
variable [Lams]
noncomputable def TSO (P : Program) (w : World) (a : Addr) (L : List Str) : HO := .ext fun h => RT.TS P w h a L
section
variable {X : Cx} {E : EK} {a : Expr} {ma : SM W} {p1 p2 q pos : Pos}
noncomputable def rSetT (X : Cx) : List V → Hp → VK → Prop := fun vs H Q => ∃ (l : Addr) (xs : List Str), vs = [V.ref l] ∧ SqL X.K H l (xs.map V.str) ∧ xs.length < 64 ∧ ∀ p L, H p = none → (∀ z, z ∈ L ↔ z ∈ xs) → L.length ≤ xs.length → Q (.ref p) (upd H p (TSO X.prog X.w p L))
theorem tso_ok {H : Hp} {h : Heap} {a : Addr} {L : List Str} (T : RT.TS X.prog X.w h a L) : ObjOk X.prog X.w H h a (TSO X.prog X.w a L) := by
  have ⟨_, e, _⟩ := T.at_
  exact ⟨T, ⟨_, e⟩, fun h1 h2 p k => RT.TS.at' p k⟩
theorem cr_setT (hc : X.calm = true) : CallR X (.type "set") (rSetT X) := by
  intro pins s σ H vs us Q I rv ⟨l, xs, e, hl, small, q⟩
  subst e
  rw [Vals.ref1 rv]
  obtain ⟨its, ri, pl, _⟩ := I.list hl
  have isl : s.heap.IsList l its.toArray := pl.isList
  have S : StrsAre its.toArray.toList xs := by rw [List.toList_toArray]; exact ri.strs
  have n : its.toArray.size = xs.length := by
    have := ri.strs.length
    simpa using this
  have far : l < s.heap.objs.size := by
    obtain ⟨o, ho, _⟩ := isl
    exact Heap.lt_size ho
  have z1 : (s.heap.push (RS.emp X.w)).objs.size = s.heap.objs.size + 1 := Heap.size_push ..
  have ne1 : l ≠ (s.heap.push (RS.emp X.w)).objs.size := by rw [z1]; exact Nat.ne_of_lt (Nat.lt_succ_of_lt far)
  have ne2 : s.heap.objs.size ∉ [(s.heap.push (RS.emp X.w)).objs.size, l] := by
    rw [z1]
    simp only [List.mem_cons, List.not_mem_nil, or_false, not_or]
    exact ⟨Nat.ne_of_lt (Nat.lt_succ_self _), Nat.ne_of_gt far⟩
  have ne3 : ∀ b, b < s.heap.objs.size → b ∉ [s.heap.objs.size, (s.heap.push (RS.emp X.w)).objs.size] := fun b hb => by
    rw [z1]
    simp only [List.mem_cons, List.not_mem_nil, or_false, not_or]
    exact ⟨Nat.ne_of_lt hb, Nat.ne_of_lt (Nat.lt_succ_of_lt hb)⟩
  refine RS.set_list (Z := fun g => ∃ L, RT.TS X.prog X.w g s.heap.objs.size L ∧ (∀ z, z ∈ L ↔ z ∈ xs) ∧ L.length ≤ xs.length) (I.ok.hd hc) isl (fun B t R hB _ ht hg hd ho hR => ?_) fun g tk ⟨L, T, m, len⟩ k => ?_
  · have W := (Walks.list (prog := X.prog) (w := X.w) (A := B.in1) (by simpa using hB) _ l ne1 its.toArray).toS
    have at0 : t.heap.get? s.heap.objs.size = some (RS.emp X.w) := by rw [ht]; exact Heap.get?_push_of_some _ (Heap.get?_push_size _ rfl)
    refine RT.loop (s := t) W (a := s.heap.objs.size) ne2 xs n (by unfold scanBound; omega) (fun i v hv => ?_) (fun s' L mv T m len => ?_) its.toArray.size 0 t [] (by omega) (Nat.zero_le _)
      ⟨by rw [ht]; exact ⟨_, Heap.get?_push_size _ rfl, rfl, rfl⟩, by rw [ht]; exact (isl.push _).push _⟩ ⟨fun _ _ _ h => h, W.grefl _, rfl, rfl, Nat.le_refl _⟩ (RT.TS.new at0) (fun z => by simp) (Nat.le_refl _)
    · have hv' : its.toArray.toList[i]? = some v := by rw [Array.getElem?_toList]; exact hv
      exact RT.strs_get S i v hv'
    · refine hR s' ⟨mv.gens.trans hg, mv.drawn.trans hd, mv.os.trans ho, fun b u e => ?_⟩ ⟨L, T, m, len⟩
      have lt := Heap.lt_size e
      refine mv.heap b u (ne3 b lt) (by rw [ht]; exact Heap.get?_push_of_some _ (Heap.get?_push_of_some _ e))
  · exact ⟨.ref s.heap.objs.size, upd H s.heap.objs.size (TSO X.prog X.w s.heap.objs.size L), I.laid (t' := tk) k (Nat.le_refl _) (tso_ok T), rfl, q _ L (I.hok.fresh (Nat.le_refl _)) m len⟩
noncomputable def rSrtT (X : Cx) : List V → Hp → VK → Prop := fun vs H Q => ∃ (a : Addr) (L : List Str), vs = [V.ref a] ∧ H a = some (TSO X.prog X.w a L) ∧ L.length < 64 ∧
  ∀ (ys : List Str) (p : Addr), ys.Pairwise (fun a b => ltS a b = true) → (∀ z, z ∈ ys ↔ z ∈ L) → H p = none → Q (.ref p) (upd H p (.lst (ys.map V.str)))
theorem cr_srtT (hc : X.calm = true) : CallR X (.builtin "sorted") (rSrtT X) := by
  intro pins s σ H vs us Q I rv ⟨a, L, e, ha, small, q⟩
  subst e
  rw [Vals.ref1 rv]
  have T : RT.TS X.prog X.w s.heap a L := (I.hok a _ ha).1
  refine RT.sorted_ts T (I.ok.hd hc) small fun s' p out c ys k g o hp hg S pm so => ?_
  have len : (ys.map V.str).length ≤ sizeLine := by rw [List.length_map, pm.length_eq, sizeLine_eq]; omega
  have J : Inv X pins σ (upd H p (.lst (ys.map V.str))) { s with heap := s'.heap, gens := s'.gens, drawn := s'.drawn, toks := s'.toks } :=
    I.call (ch := []) (Un.laid k hp (I.hok.fresh hp)) (I.hok.laid k hp ⟨len, out, c, vals_of_strs S, hg⟩) (by rw [g]; exact I.bare) (fun _ z => nomatch z)
  have e : s' = { s with heap := s'.heap, gens := s'.gens, drawn := s'.drawn, toks := s'.toks } := by
    cases s'; cases s; cases o; rfl
  rw [e]
  refine ⟨.ref p, _, J, rfl, q ys p ?_ (fun z => pm.mem_iff) (I.hok.fresh hp)⟩
  have nd : ys.Nodup := pm.nodup_iff.mpr T.nd
  refine ((sortedS_pw so).and nd).imp fun {x y} h => ?_
  rcases totS.tri x y h.2 with z | z
  · exact z
  · rw [h.1] at z; cases z
/-- sorted(set(xs)) of texts -/
noncomputable def gSrtSetS (w : W) (S : Store) : Res W := match (seqL S w).bind strsW with
  | some xs => if xs.length < 64 then .ok (.lst ((usrt ltS xs).map .str)) S else .bad
  | none => .bad
theorem pm_srtsetS (hc : X.calm = true) (hg : Gl X "sorted") (hm : X.mg "sorted" = none) (hg2 : Gl X "set") (hm2 : X.mg "set" = none) (ha : PM X E a ma) (hs : starEach [a] X.env = [(false, eval a X.env)] := by rfl)
    (hs2 : starEach [Expr.Call (.Name "set" p2) [a] [] q] X.env = [(false, eval (Expr.Call (.Name "set" p2) [a] [] q) X.env)] := by rfl) : PM X E (.Call (.Name "sorted" p1) [.Call (.Name "set" p2) [a] [] q] [] pos) (mUn gSrtSetS ma) := by
  have h1 := pe_callTy (p := p2) (pos := q) (cr_setT (X := X) hc) hg2 hm2 (by decide +kernel) (pa_cons ha pa_nil hs) (by decide +kernel) (by decide +kernel) hs rfl
  have h2 := pe_callB (p := p1) (pos := pos) (cr_srtT (X := X) hc) hg hm (by decide +kernel) (pa_cons h1 pa_nil hs2) (by decide +kernel) (by decide +kernel) hs2 rfl
  refine pe_imp h2 fun σ H Q h => ?_
  show tE X E ma σ H fun x H1 => _
  refine tX.bind (m := ma) (k := fun w s S => gSrtSetS w S) h fun ρ H1 w x s S1 rep env r o => ?_
  unfold gSrtSetS at o
  cases e : (seqL S1 w).bind strsW with
  | none => rw [e] at o; exact o.elim
  | some xs =>
    rw [e] at o
    dsimp only at o
    split at o
    · rename_i small
      obtain ⟨l, rfl, hl⟩ := strsW_at rep r e
      refine ⟨l, xs, rfl, hl, small, fun p L hp mem len => ⟨p, L, rfl, upd_same, by omega, fun ys p3 pw my hp3 => ?_⟩⟩
      obtain ⟨e3, rep3⟩ := rep.tree hp (TSO X.prog X.w p L)
      have eq : ys = usrt ltS xs := usrt_eq totS (fun z => (my z).trans (mem z)) pw
      subst eq
      have e4 := out_lst (E := E) (fun ρ' H' v ex => o ρ' H' v (e3.trans ex)) rep3 hp3 (strs_rws _)
      exact e4
    · exact o.elim
end
end RL
end
section
set_option maxRecDepth 100000
set_option maxHeartbeats 4000000
/-! ==, !=, str(x), repr(x) of own objects -/
namespace PySem.W
open PySem PySem.Spec PySem.Calls PyProof.Rows
section
variable {prog : Program} {w : World} {A : Around} {E : Value → Shared → Prop} {s : Shared} {K : Frag} {x C f : Addr} {ox : Obj} {od : Option Obj} {b tb : Value}
theorem rn_special {M : Model} {name : Str} {id : String} {args : List Value} {Q : Option Value → Shared → Prop} (X : K.In s.heap) (I : InstAt s.heap x ox C od) (hs : findIn K (.ref C) name = some (some (.builtin id)))
    (hb : ∀ self, bindSpecial (.builtin id) self = pure (.builtin id, [self])) (h : wpAny M A (call (.builtin id) (.ref x :: args)) (fun v => Q (some v)) E s) : wpAny M A (callSpecialIfBound? (.ref x) name args) Q E s := by
  simp only [callSpecialIfBound?, bindSpecialIfBound?]
  have done : wpAny M A (call (.builtin id) ([.ref x] ++ args) >>= fun v => pure (some v)) Q E s := wpAny_bind (wpAny_mono h (fun v s' q => wpAny_pure q) fun _ _ q => q)
  have B := Looks.of_pure (M := M) (h := s.heap) (hb (.ref x))
  refine wpAny_holding (wpAny_bind (wpAny_bind (wpAny_bind (I.type.here ((looks_findIn X hs).here (wpAny_bind (wpAny_askSetting (wpAny_ite ?_))))))))
  split
  · exact wpAny_bind (B.here (wpAny_pure done))
  · exact wpAny_tryCatch (wpAny_bind (B.here (wpAny_pure done)))
open Builtin in
/-- x != b by x's own __eq__ -/
theorem rn_ne {Q : Value → Shared → Prop} (hu : A.units < cLine) (hu1 : A.in1.units < cLine) (X : K.In s.heap) (I : InstAt s.heap x ox C od) (hb : Looks (model prog w) s.heap (typeOf b) tb) (hn : notFirst K C tb = true) (hm : mroIn K C (.type "object") = some true)
    (h1 : findIn K (.ref C) "__ne__" = some (some (.builtin "object.__ne__"))) (h2 : findIn K (.ref C) "__eq__" = some (some (.ref f))) (hf : isFn K (.ref f) = true)
    (h : wpAny (model prog w) A.in1 (call (.ref f) [.ref x, b]) (fun v s' => ∃ c, v = .bool c ∧ Q (.bool (!c)) s') E s) : wpAny (model prog w) A (richCompare .NotEq (.ref x) b) Q E s := by
  have inner : wpAny (model prog w) A (call (.builtin "object.__ne__") [.ref x, b]) (fun v s' => ∃ c, v = .bool c ∧ Q v s') E s := by
    refine wpAny_call (codeAny_call_builtin PySem.F.cmp_object.ne.plain PySem.F.cmpEntry_ne (check_slot PySem.F.cmpKind_ne PySem.F.cmpSplit_ne (I.type.andThen (looks_mroIn X hm)) (PySem.F.cmpArgs_ne _ _) ?_))
    unfold Builtin.«object.__ne__»
    refine wpAny_bind (m := slotArgs "__ne__" 1 _) (wpAny_pure ?_)
    refine wpAny_bind (m := cRoomFor _ _) (wpAny_cRoomFor hu1 ?_)
    refine wpAny_bind (m := callSpecialIfBound? (.ref x) (Str.ofString "__eq__") [b]) (ifBound_K X I h2 hf (wpAny_mono h (fun v s' q => ?_) fun _ _ e => e))
    obtain ⟨c, rfl, q⟩ := q
    refine wpAny_bind (m := truthy (.bool c)) (wpAny_truthy_bool ?_)
    exact wpAny_pure ⟨_, rfl, q⟩
  unfold richCompare
  simp only [oneThing_ref]
  refine wpAny_holding (wpAny_bind (wpAny_cRoomFor hu (wpAny_bind (I.type.here (wpAny_bind (hb.here ?_))))))
  have one : wpAny (model prog w) A (tryCompare (.ref x) (cmpInfo .NotEq).2.1 b) (fun r s' => ∃ v, r = some v ∧ Q v s') E s := by
    unfold tryCompare
    refine wpAny_bind (rn_special X I h1 PySem.F.cmp_object.ne.bind (wpAny_mono inner (fun v s' q => ?_) fun _ _ e => e))
    obtain ⟨c, rfl, q⟩ := q
    exact wpAny_pure ⟨_, rfl, q⟩
  split
  · rename_i q
    have no : subIn K tb (.ref C) = some false := by
      rcases Bool.or_eq_true_iff.mp hn with e | e
      · rw [beq_iff_eq.mp e] at q; simp at q
      · exact beq_iff_eq.mp e
    refine wpAny_bind ((looks_subIn X no).here ?_)
    simp only [Bool.false_eq_true, if_false]
    refine wpAny_bind (wpAny_mono one (fun r s' z => ?_) fun _ _ e => e)
    obtain ⟨v, rfl, z⟩ := z
    exact wpAny_pure z
  · refine wpAny_bind (wpAny_pure ?_)
    simp only [Bool.false_eq_true, if_false]
    refine wpAny_bind (wpAny_mono one (fun r s' z => ?_) fun _ _ e => e)
    obtain ⟨v, rfl, z⟩ := z
    exact wpAny_pure z
end
end PySem.W
namespace RL
open PySem PySem.Spec L2 OrdX
open PyProof.Rows hiding St
variable [Lams]
/-- what a class's == wants of the text -/
structure OwnEq (K : PySem.W.Frag) (C : Addr) : Prop where
  same : PySem.W.notFirst K C (.ref C) = true
  str : PySem.W.notFirst K C (.type "str") = true
  obj : PySem.W.mroIn K C (.type "object") = some true
  ne : PySem.W.findIn K (.ref C) "__ne__" = some (some (.builtin "object.__ne__"))
noncomputable def gOwnEq (c : Str) (neg : Bool) (base : W → W → Store → Res W) (g : Fn) (w1 w2 : W) (S : Store) : Res W :=
  if isIns c w1 = true then (if (isIns c w2 || isStr w2) = true then (g [w1, w2] S).bind fun v S' => match v with
    | .bl b => .ok (.bl (xorB neg b)) S'
    | _ => .bad else .bad) else if isIns c w2 = true then .bad else base w1 w2 S
/-- str(x), repr(x) -/
noncomputable def gOwnS (c : Str) (g : Fn) (w : W) (S : Store) : Res W := if isIns c w = true then (g [w] S).bind fun v S' => match v with
    | .str z => .ok (.str z) S'
    | _ => .bad else .bad
section
variable {X : Cx} {E : EK} {c m q : Str} {k k' : Nat} {st : Stmt} {ps : List Str} {g : Fn} {base : W → W → Store → Res W}
theorem run_at {A : Around} {CX : CXT} {f : Addr} {fd : FuncData} {sp : Sp} {pins : List (Addr × Obj)} {σ : L2.St} {H : Hp} {s : Shared} {Q : VK} {us : List Value} {vs : List V} (hA : A.frames = X.A.frames) (F : FnOk X.prog X.w X.K X.mg X.base CX k f fd ps sp) (hr : Room k A) (hb : Binds X.K fd ps []) (hx : Passes CX X E)
    (I : Inv X pins σ H s) (r : Vals vs us) (h : sp vs H Q E) : wpAny (model X.prog X.w) A (call (.ref f) us) (EP X pins σ Q) X.xe s := by
  have I0 : Env0 X.prog X.w X.K X.mg X.base A X.stack s H := { I.env0 with frames := hA.trans I.env0.frames }
  have n : (us ++ []).length = ps.length := by rw [List.append_nil, ← r.length]; exact F.len _ _ _ _ h
  have b := hb s us I.kIn n
  rw [List.append_nil] at b
  refine wpAny_call (codeAny_mono (F.run A X.stack s H ⟨us, []⟩ us vs Q E hr I0 b r h) fun r s' z => ?_)
  cases r with
  | error e => exact hx pins σ H s e s' I z
  | ok fl => cases fl with
    | ret u => exact I.after z
    | _ => exact z.elim
theorem om_ownEq (hop : ∀ C, X.mg c = some (.ref C) → OwnEq X.K C) (F : MeE X.prog X.w X.K X.mg X.base k c "__eq__" q st ps g) (hr : Room k' X.A) (hk : k + 2 ≤ k') (tk : Takes X (fun c d _ H => E c d H)) (hn : ps.length = 2) (neg : Bool) {op : CmpOp} (hop2 : op = if neg then .NotEq else .Eq)
    (hb : OpM X E (compareOp op) base) : OpM X E (compareOp op) (gOwnEq c neg base g) := by
  intro pins s σ H x y v u Q I rx ry ⟨ρ, S, w1, w2, rep, r1, r2, o⟩
  obtain ⟨C, f, fd, a1, a2, a3, a4, a5, a6⟩ := F
  have O := hop C a1
  rw [hn] at a6
  unfold gOwnEq at o
  obtain ⟨m, hF⟩ := I.fr
  have r0 : Room (k + 2) X.A := hr.mono hk
  split at o
  · rename_i h1
    split at o
    · rename_i h2
      obtain ⟨a, dx, fs, rfl, ha⟩ := ins_of a1 r1 h1
      obtain ⟨ox, od, J, _⟩ := inst_of I ha
      obtain rfl : v = Value.ref a := rx
      have back : ∀ (A : Around), A.frames = X.A.frames → Room k A → wpAny (model X.prog X.w) A (call (.ref f) [.ref a, u]) (fun v s' => ∃ b, v = .bool b ∧ EP X pins σ Q (.bool (xorB neg b)) s') X.xe s := fun A hA rA => by
        refine thn (run_at (A := A) (Q := fun x H' => ∃ b, x = .bl b ∧ Q (.bl (xorB neg b)) H') hA (us := [.ref a, u]) (vs := [.ref a, y]) a6 rA a5 (passM tk) I (.cons rfl (.cons ry .nil)) ⟨ρ, S, [w1, w2], rep, .cons r1 (.cons r2 .nil), rfl, ?_⟩) ?_
        · refine Out.bind o fun ρ1 H1 z b S1 ex rep1 rz o1 => ?_
          cases z with
          | bl t =>
            cases rz
            exact ⟨t, rfl, Out.here o1 rep1 (.bl _)⟩
          | _ => exact o1.elim
        · rintro v s' ⟨x, H1, I1, rv, b, rfl, z⟩
          cases rv
          exact ⟨b, rfl, .bl (xorB neg b), H1, I1, rfl, z⟩
      have tb : ∃ tb, PySem.W.Looks (model X.prog X.w) s.heap (typeOf u) tb ∧ PySem.W.notFirst X.K C tb = true := by
        rw [Bool.or_eq_true] at h2
        rcases h2 with h2 | h2
        · obtain ⟨a', dx', fs', rfl, ha'⟩ := ins_of a1 r2 h2
          obtain ⟨ox', od', J', _⟩ := inst_of I ha'
          obtain rfl : u = Value.ref a' := ry
          exact ⟨_, J'.type, O.same⟩
        · cases w2 with
          | str z =>
            cases r2
            obtain ⟨t, rfl⟩ := ry
            exact ⟨_, PySem.W.Looks.of_pure rfl, O.str⟩
          | _ => cases h2
      obtain ⟨tb, lk, nf⟩ := tb
      cases neg with
      | false =>
        have e : op = .Eq := hop2
        subst e
        refine PySem.W.cmp_ofEq (PySem.W.cmp_K r0.units0 hF I.ok.mod.kin J lk nf a3.at_ a3.fn (thn (back X.A rfl (r0.mono (by omega))) fun v s' h => ?_))
        obtain ⟨b, rfl, h⟩ := h
        exact h
      | true =>
        have e : op = .NotEq := hop2
        subst e
        have r1' : Room (k + 1) X.A.in1 := Room.in1 r0
        refine PySem.W.cmp_ofNotEq (PySem.W.rn_ne r0.units0 r1'.units0 I.kIn J lk nf O.obj O.ne a3.at_ a3.fn (thn (back X.A.in1 rfl (r1'.mono (by omega))) fun v s' h => ?_))
        obtain ⟨b, rfl, h⟩ := h
        exact ⟨b, rfl, h⟩
    · exact o.elim
  · split at o
    · exact o.elim
    · exact hb pins s σ H x y v u Q I rx ry ⟨ρ, S, w1, w2, rep, r1, r2, o⟩
theorem ownS {nm : Str} (F : MeE X.prog X.w X.K X.mg X.base k c nm q st ps g) (tk : Takes X (fun c d _ H => E c d H)) (hn : ps.length = 1) {pins : List (Addr × Obj)} {s : Shared} {σ : L2.St} {H : Hp} {x : V} {us : List Value} {Q : VK} {ρ : RT} {S : Store} {w : W} (I : Inv X pins σ H s) (r : Vals [x] us) (rep : RepS X.K X.mg ρ H S) (rw' : RW X.K X.mg ρ H w x) (o : Out X.K X.mg (RW X.K X.mg) E ρ H (gOwnS c g w S) Q) :
    ∃ C f a ox od, us = [Value.ref a] ∧ PySem.W.InstAt s.heap a ox C od ∧ X.mg c = some (.ref C) ∧ Meth X.K C nm f ∧ ∀ (A : Around), A.frames = X.A.frames → Room k A → wpAny (model X.prog X.w) A (call (.ref f) [.ref a]) (PySem.W.StrBack (EP X pins σ Q)) X.xe s := by
  obtain ⟨C, f, fd, a1, a2, a3, a4, a5, a6⟩ := F
  rw [hn] at a6
  unfold gOwnS at o
  split at o
  · rename_i h1
    obtain ⟨a, dx, fs, rfl, ha⟩ := ins_of a1 rw' h1
    obtain ⟨ox, od, J, _⟩ := inst_of I ha
    have eu := Vals.ref1 r
    subst eu
    refine ⟨C, f, a, ox, od, rfl, J, a1, a3, fun A hA rA => ?_⟩
    refine thn (run_at (A := A) (Q := fun x H' => ∃ z, x = .str z ∧ Q (.str z) H') hA (us := [.ref a]) (vs := [.ref a]) a6 rA a5 (passM tk) I r ⟨ρ, S, [w], rep, .cons rw' .nil, rfl, ?_⟩) ?_
    · refine Out.bind o fun ρ1 H1 z b S1 ex rep1 rz o1 => ?_
      cases z with
      | str t =>
        cases rz
        exact ⟨t, rfl, Out.here o1 rep1 (.str _)⟩
      | _ => exact o1.elim
    · rintro v s' ⟨x, H1, I1, rv, b, rfl, z⟩
      obtain ⟨t, rfl⟩ := rv
      exact ⟨.str b, H1, I1, ⟨t, rfl⟩, z⟩
  · exact o.elim
theorem cm_ownStr (F : MeE X.prog X.w X.K X.mg X.base k c "__str__" q st ps g) (hr : Room k' X.A) (hk : k + 2 ≤ k') (tk : Takes X (fun c d _ H => E c d H)) (hn : ps.length = 1) : CallM X E (.type "str") (g1 (gOwnS c g)) := cm1 fun pins s σ H x us Q ρ S w I r rep rw' o => by
  obtain ⟨C, f, a, ox, od, rfl, J, _, M, run⟩ := ownS F tk hn I r rep rw' o
  have r0 : Room (k + 2) X.A := hr.mono hk
  have r2 : Room k X.A.in1.in1 := Room.in1 (Room.in1 r0)
  exact PySem.W.kso_call r2.units0 I.kIn J M.at_ M.fn (run _ rfl r2)
theorem cm_ownRepr (F : MeE X.prog X.w X.K X.mg X.base k c "__repr__" q st ps g) (hr : Room k' X.A) (hk : k + 2 ≤ k') (tk : Takes X (fun c d _ H => E c d H)) (hn : ps.length = 1) : CallM X E (.builtin "repr") (g1 (gOwnS c g)) := cm1 fun pins s σ H x us Q ρ S w I r rep rw' o => by
  obtain ⟨C, f, a, ox, od, rfl, J, _, M, run⟩ := ownS F tk hn I r rep rw' o
  have r0 : Room (k + 2) X.A := hr.mono hk
  have r1 : Room (k + 1) X.A.in1 := Room.in1 r0
  obtain ⟨m, hF⟩ := I.fr
  exact PySem.W.repr_K r1.units0 hF I.ok.mod.kin J M.at_ M.fn (run _ rfl (r1.mono (by omega)))
end
section
variable {K : PySem.W.Frag} {mg : Str → Option Value} {h : Heap} {c : Str}
theorem ownEq_mk {C0 : Addr} (X : K.In h) (G : h.Ns mainGlobals mg) (a : PySem.W.nsIn K mainGlobals c = some (some (.ref C0))) (e1 : PySem.W.notFirst K C0 (.ref C0) = true) (e2 : PySem.W.notFirst K C0 (.type "str") = true) (e3 : PySem.W.mroIn K C0 (.type "object") = some true)
    (e4 : PySem.W.findIn K (.ref C0) "__ne__" = some (some (.builtin "object.__ne__"))) : ∀ C, mg c = some (.ref C) → OwnEq K C := fun C hC => by
  have h0 := PySem.W.mg_of X G a
  rw [hC] at h0; cases h0
  exact ⟨e1, e2, e3, e4⟩
end
end RL
end
section
set_option maxRecDepth 100000
set_option maxHeartbeats 4000000
/-! static methods by keyword, a list of the store made by + -/
namespace RL
open PySem PySem.Spec L2 OrdX
open PyProof.Rows hiding St
variable [Lams]
section
variable {X : Cx} {E : EK} {pos apos p : Pos} {kws : List Keyword} {mk : SM (List W)} {c m q x : Str} {n k k' : Nat} {st : Stmt} {ps : List Str} {g : Fn} {pl : Sem Bool}
theorem kw_runQ {f : Addr} {fd : FuncData} {idx : List Nat} {ks : List Str} (F : Fun X.K m q st f fd) (h4 : FnM X.prog X.w X.K X.mg X.base k f fd ps ps.length g) (hr : Room k X.A) (tk : Takes X (fun c d _ H => E c d H)) {nb : Nat} (hks : ks.length = nb)
    (hb : ∀ (kV doc pm : Value) (an : Option Addr) (cdv ct : Value) (us ws : List Value), us.length = n → ws.length = nb → bindArgs (PySem.W.fnOf m q (defArgs st) (defBody st) (defScope st) .none kV doc pm an cdv ct) ⟨us, ks.zip ws⟩ = pure (ps.zip (pIdx idx (us ++ ws))))
    {pins : List (Addr × Obj)} {σ : L2.St} {H : Hp} {s : Shared} {Q : VK} {us ws : List Value} {vs zs : List V} (I : Inv X pins σ H s) (r : Vals vs us) (rz : Vals zs ws) (l1 : vs.length = n) (l2 : zs.length = nb) (h : spM X.K X.mg ps.length g (pIdx idx (vs ++ zs)) H Q E) : wpAny (model X.prog X.w) X.A (call (.ref f) us (ks.zip ws)) (EP X pins σ Q) X.xe s := by
  obtain ⟨oc, od, kV, doc, pm, an, cdv, ct, osl, rfl, _, _⟩ := F.ex
  refine wpAny_call (codeAny_mono (h4.run X.A X.stack s H ⟨us, ks.zip ws⟩ (pIdx idx (us ++ ws)) (pIdx idx (vs ++ zs)) Q E hr I.env0 (.of_eq (hb kV doc pm an cdv ct us ws (r.length.symm.trans l1) (rz.length.symm.trans l2))) (pIdx_vals (r.append rz)) h) fun r s' z => ?_)
  cases r with
  | error e => exact passM tk pins σ H s e s' I z
  | ok fl => cases fl with
    | ret u => exact I.after z
    | _ => exact z.elim
/-- what the keywords' values are worth to the callee -/
theorem kw_sp {nb : Nat} [hl : Len mk nb] {idx : List Nat} (hidx : idx.all (· < 0 + nb) = true) (hil : idx.length = ps.length) {σ : L2.St} {H : Hp} {Q : VK} (h : tE X E (mCallK idx g mNil mk) σ H Q) :
    tA X E mk σ H (fun zs H2 => zs.length = nb ∧ spM X.K X.mg ps.length g (pIdx idx ([] ++ zs)) H2 Q E) := by
  obtain ⟨ρ, s, S, rep, env, o⟩ := h
  have o : Out X.K X.mg (RW X.K X.mg) E ρ H ((mk s S).bind fun ws S2 => g (pIdx idx ([] ++ ws)) S2) Q := o
  refine ⟨ρ, s, S, rep, env, ?_⟩
  cases e : mk s S with
  | ok ws S1 =>
    rw [e] at o
    have nw := hl.len _ _ _ _ e
    refine fun ρ1 H1 zs x rep1 r => ⟨by rw [← r.length]; exact nw, ρ1, S1, pIdx idx ([] ++ ws), rep1, pIdx_rws (by simpa using r), ?_, Out.ext x o⟩
    rw [pIdx_len fun i hi => ?_, hil]
    have := of_decide_eq_true (List.all_eq_true.mp hidx i hi)
    rw [List.nil_append, nw]
    omega
  | exc c ns ws S1 => rw [e] at o; exact o
  | bad => rw [e] at o; exact o
/-- C.m(k = v, ..) -/
theorem pm_statK0 {nb : Nat} [hl : Len mk nb] (idx : List Nat) (ks : List Str) (F : StE X.prog X.w X.K X.mg X.base k c m q st ps g) (hr : Room k' X.A) (hk : k ≤ k') (tk : Takes X (fun c d _ H => E c d H)) (hkw : PKM X E kws mk)
    (hb : ∀ (kV doc pm : Value) (an : Option Addr) (cdv ct : Value) (us ws : List Value), us.length = 0 → ws.length = nb → bindArgs (PySem.W.fnOf m q (defArgs st) (defBody st) (defScope st) .none kV doc pm an cdv ct) ⟨us, ks.zip ws⟩ = pure (ps.zip (pIdx idx (us ++ ws))))
    (hidx : idx.all (· < 0 + nb) = true := by decide) (hil : idx.length = ps.length := by rfl) (hkl : ks.length = nb := by rfl) (hks : (backToKw pos (keywordEach kws X.env)).filterMap (·.1) = ks := by rfl)
    (hall : (backToKw pos (keywordEach kws X.env)).all (·.1.isSome) = true := by rfl) (hg : Gl X c := by rfl) (hdb : (c == ("__debug__" : Str)) = false := by decide +kernel)
    (hpl : ((backTo pos (starEach [] X.env)).any (·.1) || (backToKw pos (keywordEach kws X.env)).any (·.1.isNone)) = false := by rfl)
    (ht : eval (.Call (.Attribute (.Name c p) m apos) [] kws pos) X.env = (do
      let ov ← eval (.Name c p) X.env
      standAt apos.atName
      let (f, first) ← holding [ov] (getMethod ov m pl)
      callWith pos f first (backTo pos (starEach [] X.env)) (backToKw pos (keywordEach kws X.env))) := by rfl) : PM X E (.Call (.Attribute (.Name c p) m apos) [] kws pos) (mCallK idx g mNil mk) := by
  obtain ⟨C, f, fd, h1, h2, h4, h5, h6⟩ := F
  refine ⟨fun pins s σ H Q I h => ?_⟩
  refine PySem.W.methodCall_KW (pl := pl) (thn ((pe_glob (v := .ref C) (pos := p) hg h1 rfl hdb).run pins s σ H (fun v H1 => v = .ref C ∧ H1 = H) I ⟨rfl, rfl⟩) fun u s1 ⟨x, H1, I1, rx, ex, eH⟩ => ?_) ht
  subst ex eH
  obtain rfl : u = Value.ref C := rx
  refine getsm_ok I1 h2 fun s2 I2 => ?_
  refine PySem.W.callWith_KW0 (first := []) (h₀ := X.base) I2.ok.mod.kin h4.kp hall ?_ hpl
  refine thn (hkw.run pos pins s2 σ H1 _ I2 (kw_sp hidx hil h)) fun ws s3 ⟨zs, H2, I3, rz, l2, q2⟩ => ⟨I3.kIn, ?_⟩
  rw [hks]
  exact kw_runQ (n := 0) (us := []) (vs := []) h4 h6 (hr.mono hk) tk hkl hb I3 .nil rz rfl l2 q2
end
/-- xs + ys, a list that will be changed -/
noncomputable def gAddR (w1 w2 : W) (S : Store) : Res W := match seqM S w1, seqM S w2 with
  | some a, some b => if a.length + b.length ≤ lim then .ok (.ref S.length) (S ++ [.lst (a ++ b)]) else .bad
  | _, _ => .bad
section
variable {X : Cx} {E : EK}
theorem om_addR : OpM X E (binaryOp .Add) gAddR := by
  intro pins s σ H x y v u Q I rx ry ⟨ρ, S, w1, w2, rep, r1, r2, o⟩
  unfold gAddR at o
  cases e1 : seqM S w1 with
  | none => rw [e1] at o; exact o.elim
  | some a =>
    cases e2 : seqM S w2 with
    | none => rw [e1, e2] at o; exact o.elim
    | some b =>
      rw [e1, e2] at o
      dsimp only at o
      split at o
      · rename_i hz
        obtain ⟨p, xs, rfl, hp, q1⟩ := seqM_of rep r1 e1
        obtain ⟨q, ys, rfl, hq, q2⟩ := seqM_of rep r2 e2
        exact op_cat pins s σ H _ _ v u Q I rx ry ⟨p, q, xs, ys, rfl, rfl, hp, hq, by rw [← q1.length, ← q2.length]; exact lim_line hz, fun l hl => out_new o rep hl fun e => .lst upd_same ((q1.append q2).ext e)⟩
      · exact o.elim
end
end RL
end
section
set_option maxRecDepth 100000
set_option maxHeartbeats 4000000
/-! own exceptions: they are made by an __init__ that says super().__init__(..) and keeps its arguments -/
namespace REX
open PySem PySem.Spec PySem.Calls PyProof.Rows PySem.W
open Builtin Builtin.ObjectAttr
section
variable {prog : Program} {w : World} {M : Model} {A : Around} {E : Value → Shared → Prop} {h : Heap} {g : Array GenState} {d : Drawn} {t : Nat} {os : OsState} {K : Frag} {C : Addr} {B newId initId : String} {bmB : List Value}
/-- ValueError.__init__, bound to the new exception at e, is called -/
theorem bound_call {u e t0 : Addr} {rest : List Value} {Q : Value → Shared → Prop} (X : K.In h) (q : excInitIn K C bmB newId = true) (FB : ExcBaseFacts B newId initId bmB) (he : h.get? e = some (excObj C t0 none .none)) (hu : h.get? u = some (kxs_mw initId e)) (hz : rest.length ≤ sizeLine)
    (k : ∀ h' t1, (∀ b o, b ≠ e → h.get? b = some o → h'.get? b = some o) → h'.get? e = some (excObj C t1 none .none) → Q .none ⟨h', g, d, t, os⟩) : wpAny (model prog w) A (call (.ref u) rest) Q E ⟨h, g, d, t, os⟩ := by
  obtain ⟨nm, N', qn, bs, bm, hdct, sn, sub, ab, col, dd, k0, k1, k2, k3, k5, hC, _⟩ := excInit_of X q
  refine wpAny_call (codeAny_of_tree ?_)
  show wpAny _ A.in1 (callAny (.ref u) ⟨rest, []⟩) _ _ _
  unfold callAny
  refine wpAny_bind (wpAny_load hu ?_)
  refine KFB.if_so rfl ?_
  refine wpAny_bind (check_bound_init FB.toExcCallFacts hC he rfl (wpAny_bind (wpAny_pure (wpAny_pure ⟨plainId_quiet FB.init.plain _, codeAny_builtin FB.initEntry ?_⟩))))
  exact exc_init_tree (cls := .ref C) (t0 := t0) (dv := none) (c2 := .none) (c3 := .none) (b4 := .bool false) he hz fun h' keep at' _ => k h' _ keep at'
/-- a = v on an exception without a dict -/
theorem set_first {x : Addr} {t0 : Addr} {name : Str} {v : Value} {cd : ClassData} {Q : Unit → Shared → Prop} (SF : StoreFacts B bmB "object.__setattr__" "object") (X : K.In h) (hx : h.get? x = some (excObj C t0 none .none)) (ov : excOver K C bmB = true) (tk : takerIn K C name = some none)
    (hc : clsIn K C = some cd) (hd : cd.hasDict = true) (sa : findIn K (.ref C) "__setattr__" = some (some (.builtin "object.__setattr__")))
    (k : ∀ h' tk' dx, (∀ b o, b ≠ x → h.get? b = some o → h'.get? b = some o) → h.objs.size ≤ dx → dx ≠ x → h'.get? x = some (excObj C t0 (some dx) .none) → h'.Ns1 dx (fun y => if y = name then some v else none) → Q () ⟨h', g, d, tk', os⟩) :
    wpAny (model prog w) A (setAttr (.ref x) name v) Q E ⟨h, g, d, t, os⟩ := by
  have I : InstAt h x (excObj C t0 none .none) C none := ⟨hx, rfl, rfl, trivial⟩
  have far : x ≠ h.objs.size := Nat.ne_of_lt (Heap.lt_size hx)
  refine set_plain X I sa (osa_openX SF X I ov tk fun b => ?_)
  have L : Looks (model prog w) h (classData C) cd := looks_clsIn X hc
  obtain ⟨nm, bs, mro, ns, qn, hdd, sn, sb, ab, col, del⟩ := cd
  dsimp only at hd
  subst hd
  dsimp only
  unfold storeInOwnDict ownDictForStores
  repeat (first | with_reducible refine PySem.HandSPX.store_in_new ?_ ?_ | with_reducible refine wpAny_loadPart_at hx ?_ | with_reducible refine L.at ?_ | wp_step)
  · exact ⟨_, #[], _, (Heap.get?_update_ne _ _ _ _ far.symm).trans (Heap.get?_push_at rfl rfl), rfl, fun e he => absurd he (by simp), fun _ => rfl⟩
  · intro h' tk' hn sb'
    refine k h' tk' h.objs.size (fun b o hb ho => ?_) (Nat.le_refl _) far.symm ?_ hn
    · exact (sb'.2 b (Nat.ne_of_lt (Heap.lt_size ho))).trans ((Heap.get?_update_ne _ _ _ _ hb).trans (Heap.get?_push_of_some _ ho))
    · exact (sb'.2 x far).trans (Heap.get?_update_self _ (Heap.get?_push_of_some _ hx) rfl)
/-- .. on one that has a dict -/
theorem set_next {x dx : Addr} {t0 : Addr} {name : Str} {v : Value} {cd : ClassData} {m0 : Str → Option Value} {nl : List Str} {Q : Unit → Shared → Prop} (SF : StoreFacts B bmB "object.__setattr__" "object") (X : K.In h) (hx : h.get? x = some (excObj C t0 (some dx) .none)) (hn : h.Ns1 dx m0) (hw : Within m0 nl) (hz : nl.length ≤ 1000)
    (ov : excOver K C bmB = true) (tk : takerIn K C name = some none) (hc : clsIn K C = some cd) (hd : cd.hasDict = true) (sa : findIn K (.ref C) "__setattr__" = some (some (.builtin "object.__setattr__")))
    (k : ∀ h' tk', (∀ b o, b ≠ dx → h.get? b = some o → h'.get? b = some o) → h'.Ns1 dx (fun y => if y = name then some v else m0 y) → Q () ⟨h', g, d, tk', os⟩) :
    wpAny (model prog w) A (setAttr (.ref x) name v) Q E ⟨h, g, d, t, os⟩ := by
  obtain ⟨oD, _, _, hoD, _, _⟩ := hn.count hw
  have I : InstAt h x (excObj C t0 (some dx) .none) C (some oD) := ⟨hx, rfl, rfl, hoD⟩
  refine set_plain X I sa (osa_openX SF X I ov tk fun b => ?_)
  have L : Looks (model prog w) h (classData C) cd := looks_clsIn X hc
  obtain ⟨nm, bs, mro, ns, qn, hdd, sn, sb, ab, col, del⟩ := cd
  dsimp only at hd
  subst hd
  dsimp only
  unfold storeInOwnDict ownDictForStores
  repeat (first | with_reducible refine PySem.OEX.store_in_old hn hw hz ?_ | with_reducible refine wpAny_loadPart_at hx ?_ | with_reducible refine L.at ?_ | wp_step)
  intro h' tk' hn' sb'
  exact k h' tk' (fun b o hb ho => (sb'.2 b hb).trans ho) hn'
/-- self.f = literal | parameter, in a row -/
inductive Asn (self : Str) : List Stmt → List (Str × (Str ⊕ Str)) → Prop where
  | nil : Asn self [] []
  | lit {f x : Str} {j : Nat} {p1 p2 p3 p4 : Pos} {r : List Stmt} {l : List (Str × (Str ⊕ Str))} (h : Asn self r l) : Asn self (.Assign [.Attribute (.Name self p1) f p2] (.Constant (.str x) j p3) p4 :: r) ((f, .inl x) :: l)
  | par {f y : Str} {p1 p2 p3 p4 : Pos} {r : List Stmt} {l : List (Str × (Str ⊕ Str))} (h : Asn self r l) : Asn self (.Assign [.Attribute (.Name self p1) f p2] (.Name y p3) p4 :: r) ((f, .inr y) :: l)
/-- what the fields are behind the row -/
inductive Got (look : Str → Option Value) : List (Str × (Str ⊕ Str)) → List (Str × Value) → List (Str × Value) → Prop where
  | nil {acc} : Got look [] acc acc
  | lit {f x : Str} {l acc fs} (t : Tok) (h : Got look l ((f, .str x t) :: acc) fs) : Got look ((f, .inl x) :: l) acc fs
  | par {f y : Str} {v : Value} {l acc fs} (e : look y = some v) (h : Got look l ((f, v) :: acc) fs) : Got look ((f, .inr y) :: l) acc fs
theorem Got.len {look : Str → Option Value} {l : List (Str × (Str ⊕ Str))} {acc fs : List (Str × Value)} (h : Got look l acc fs) : fs.length = acc.length + l.length := by
  induction h with
  | nil => rfl
  | lit t _ ih => rw [ih]; simp; omega
  | par e _ ih => rw [ih]; simp; omega
theorem lookup_cons (f : Str) (v : Value) (acc : List (Str × Value)) : (fun y => ((f, v) :: acc).lookup y) = fun y => if y = f then some v else acc.lookup y := by
  funext y
  by_cases e : y = f
  · subst e; simp [List.lookup]
  · have : (y == f) = false := by simpa using e
    rw [if_neg e]; simp [List.lookup, this]
theorem within_lookup : ∀ acc : List (Str × Value), Within (fun y => acc.lookup y) (acc.map (·.1))
  | [], y, h => absurd rfl h
  | (f, v) :: r, y, h => by
    by_cases e : y = f
    · rw [e]; exact List.mem_cons_self
    · have : (y == f) = false := by simpa using e
      exact List.mem_cons_of_mem _ (within_lookup r y (by simpa [List.lookup, this] using h))
structure XCls (K : Frag) (C : Addr) (bmB : List Value) : Prop where
  over : excOver K C bmB = true
  sa : findIn K (.ref C) "__setattr__" = some (some (.builtin "object.__setattr__"))
  cd : ∃ cd, clsIn K C = some cd ∧ cd.hasDict = true
/-- how it stands so far: no field as yet, or a dict of them -/
noncomputable def Sofar (h : Heap) (a C L : Addr) (lo : Nat) (acc : List (Str × Value)) : Prop := ∃ t0, (acc = [] ∧ h.get? a = some (excObj C t0 none .none)) ∨ ∃ dx, lo ≤ dx ∧ dx ≠ a ∧ dx ≠ L ∧ h.get? a = some (excObj C t0 (some dx) .none) ∧ h.Ns1 dx fun y => acc.lookup y
theorem Sofar.size {h : Heap} {a L : Addr} {lo : Nat} {acc : List (Str × Value)} (s : Sofar h a C L lo acc) : a < h.objs.size := by
  obtain ⟨t0, ⟨_, e⟩ | ⟨dx, _, _, _, e, _⟩⟩ := s
  · exact Heap.lt_size e
  · exact Heap.lt_size e
theorem ns_at {h h' : Heap} {L : Addr} {m : Str → Option Value} (n : h.Ns L m) (k : ∀ o, h.get? L = some o → h'.get? L = some o) : h'.Ns L m := by
  obtain ⟨o, es, ep, ho, r⟩ := n
  exact ⟨o, es, ep, k o ho, r⟩
theorem ns_lt {h : Heap} {L : Addr} {m : Str → Option Value} (n : h.Ns L m) : L < h.objs.size := by
  obtain ⟨o, es, ep, ho, r⟩ := n
  exact Heap.lt_size ho
theorem assigns {self : Str} {env : Env} {a : Addr} {m : Str → Option Value} {h₀ : Heap} {Q : Flow → Shared → Prop} (X₀ : K.In h₀) (na : h₀.get? a = none) (lo : h₀.objs.size ≤ a) (XC : XCls K C bmB) (SF : StoreFacts B bmB "object.__setattr__" "object")
    (hk : env.scope.kind = .function) (hs : env.kindOf self = some .local) (hself : m self = some (.ref a)) (hL : env.locals ≠ a) (hdb : (self == ("__debug__" : Str)) = false) :
    ∀ {sts : List Stmt} {l : List (Str × (Str ⊕ Str))}, Asn self sts l → ∀ {acc : List (Str × Value)} {h : Heap} {t : Nat}, (∀ b o, h₀.get? b = some o → h.get? b = some o) → h.Ns env.locals m → Sofar h a C env.locals h₀.objs.size acc → acc.length + l.length ≤ 900 →
      (∀ q ∈ l, takerIn K C q.1 = some none) → (∀ q ∈ l, ∀ y, q.2 = .inr y → env.kindOf y = some .local ∧ (∃ v, m y = some v) ∧ (y == ("__debug__" : Str)) = false) →
      (∀ h' tk fs, (∀ b o, h₀.get? b = some o → h'.get? b = some o) → Got m l acc fs → Sofar h' a C env.locals h₀.objs.size fs → Q .next ⟨h', g, d, tk, os⟩) → wpAny (model prog w) A (execs sts env) Q E ⟨h, g, d, t, os⟩ := by
  obtain ⟨cd, hcd, hdict⟩ := XC.cd
  intro sts l asn
  induction asn with
  | nil => exact fun k n so _ _ _ fin => wpAny_execs_nil (fin _ _ _ k .nil so)
  | @lit f x j p1 p2 p3 p4 r l _ ih =>
    intro acc h t k n so z htk hpar fin
    refine wpAny_execs_cons (plainObj_wpAny_Assign_Attribute (Calls.Constant_str (wpAny_Name (wpAny_loadName_local hk hs n hself ?_) hdb)) (by rfl))
    have X := X₀.keeps k
    have sz := so.size
    have nl := ns_lt n
    obtain ⟨t0, ⟨rfl, e⟩ | ⟨dx, d1, d2, d3, e, ens⟩⟩ := so
    · refine set_first SF X e XC.over (htk _ List.mem_cons_self) hcd hdict XC.sa fun h' tk' dx k' c1 c2 c3 c4 => ?_
      refine ih (acc := [(f, .str x t)]) (fun b o eb => k' b o (fun z => by rw [z, na] at eb; cases eb) (k b o eb)) (ns_at n fun o eo => k' _ o hL eo) ⟨t0, .inr ⟨dx, Nat.le_trans (Nat.le_of_lt (Nat.lt_of_le_of_lt lo sz)) c1, c2, Nat.ne_of_gt (Nat.lt_of_lt_of_le nl c1), c3, by rw [lookup_cons]; exact c4⟩⟩ (by simp at z ⊢; omega) (fun q m => htk q (List.mem_cons_of_mem _ m)) (fun q m => hpar q (List.mem_cons_of_mem _ m)) fun h'' tk'' fs a1 a2 a3 => fin h'' tk'' fs a1 (.lit t a2) a3
    · refine set_next SF X e ens (within_lookup acc) (by rw [List.length_map]; omega) XC.over (htk _ List.mem_cons_self) hcd hdict XC.sa fun h' tk' k' c4 => ?_
      have far : ∀ b o, h₀.get? b = some o → b ≠ dx := fun b o eb => Nat.ne_of_lt (Nat.lt_of_lt_of_le (Heap.lt_size eb) d1)
      refine ih (acc := (f, .str x t) :: acc) (fun b o eb => k' b o (far b o eb) (k b o eb)) (ns_at n fun o eo => k' _ o (Ne.symm d3) eo) ⟨t0, .inr ⟨dx, d1, d2, d3, k' a _ (Ne.symm d2) e, by rw [lookup_cons]; exact c4⟩⟩ (by simp at z ⊢; omega) (fun q m => htk q (List.mem_cons_of_mem _ m)) (fun q m => hpar q (List.mem_cons_of_mem _ m)) fun h'' tk'' fs a1 a2 a3 => fin h'' tk'' fs a1 (.lit t a2) a3
  | @par f y p1 p2 p3 p4 r l _ ih =>
    intro acc h t k n so z htk hpar fin
    obtain ⟨hy1, ⟨v, hy2⟩, hy3⟩ := hpar _ List.mem_cons_self y rfl
    refine wpAny_execs_cons (plainObj_wpAny_Assign_Attribute (wpAny_Name (wpAny_loadName_local hk hy1 n hy2 (wpAny_Name (wpAny_loadName_local hk hs n hself ?_) hdb)) hy3) (by rfl))
    have X := X₀.keeps k
    have sz := so.size
    have nl := ns_lt n
    obtain ⟨t0, ⟨rfl, e⟩ | ⟨dx, d1, d2, d3, e, ens⟩⟩ := so
    · refine set_first SF X e XC.over (htk _ List.mem_cons_self) hcd hdict XC.sa fun h' tk' dx k' c1 c2 c3 c4 => ?_
      refine ih (acc := [(f, v)]) (fun b o eb => k' b o (fun z => by rw [z, na] at eb; cases eb) (k b o eb)) (ns_at n fun o eo => k' _ o hL eo) ⟨t0, .inr ⟨dx, Nat.le_trans (Nat.le_of_lt (Nat.lt_of_le_of_lt lo sz)) c1, c2, Nat.ne_of_gt (Nat.lt_of_lt_of_le nl c1), c3, by rw [lookup_cons]; exact c4⟩⟩ (by simp at z ⊢; omega) (fun q m => htk q (List.mem_cons_of_mem _ m)) (fun q m => hpar q (List.mem_cons_of_mem _ m)) fun h'' tk'' fs a1 a2 a3 => fin h'' tk'' fs a1 (.par hy2 a2) a3
    · refine set_next SF X e ens (within_lookup acc) (by rw [List.length_map]; omega) XC.over (htk _ List.mem_cons_self) hcd hdict XC.sa fun h' tk' k' c4 => ?_
      have far : ∀ b o, h₀.get? b = some o → b ≠ dx := fun b o eb => Nat.ne_of_lt (Nat.lt_of_lt_of_le (Heap.lt_size eb) d1)
      refine ih (acc := (f, v) :: acc) (fun b o eb => k' b o (far b o eb) (k b o eb)) (ns_at n fun o eo => k' _ o (Ne.symm d3) eo) ⟨t0, .inr ⟨dx, d1, d2, d3, k' a _ (Ne.symm d2) e, by rw [lookup_cons]; exact c4⟩⟩ (by simp at z ⊢; omega) (fun q m => htk q (List.mem_cons_of_mem _ m)) (fun q m => hpar q (List.mem_cons_of_mem _ m)) fun h'' tk'' fs a1 a2 a3 => fin h'' tk'' fs a1 (.par hy2 a2) a3
/-- the program bears this file's name, and no name super of its own -/
noncomputable def PrgOk (prog : Program) (fl : Str) : Prop := ((prog.main.file : Str) == fl) = true ∧ (prog.main.scope.names.lookup ("super" : Str)).isSome = false
/-- what the written part tells of a class and its __init__ (the def st, its literal x, its fields l) -/
structure XIn (K : Frag) (C f cda cc : Addr) (B newId initId : String) (bmB : List Value) (q slf : Str) (params : Arguments) (body : List Stmt) (scope : Scope) (ps : List Str) (l : List (Str × (Str ⊕ Str))) (fl : Str) : Prop where
  cls : XCls K C bmB
  ini : excInitIn K C bmB newId = true
  sup : ks_superIn K C C "__init__" = some (some (.builtin initId))
  sub : subIn K (.ref C) (.type B) = some true
  any : nsIn K cStatics "thirdparty.any" = some none
  own : mroIn K C (.ref C) = some true
  fn : ∃ oc od kV doc pm an ct osl, K.lookup f = some ⟨oc, od, .func (ksFn "__init__" q params body scope .none kV doc pm an (.ref cda) ct cc), osl⟩
  bd : ∀ (kV doc pm : Value) (an : Option Addr) (cd ct : Value) (cc : Addr) (us : List Value), us.length = ps.length → bindArgs (ksFn "__init__" q params body scope .none kV doc pm an cd ct cc) ⟨us, []⟩ = pure (ps.zip us)
  code : codeIn K (.ref cda) q = true
  file : ∃ ccl cdd vs ccs tf, K.lookup cda = some ⟨ccl, cdd, .fields vs, ccs⟩ ∧ vs[2]? = some (.str fl tf)
  cell : ∃ cl cld csl, K.lookup cc = some ⟨cl, cld, .cell (some (.ref C)), csl⟩
  body : ∃ x j p0 p1 p2 p3 p4 p5 rest, body = .Expr (.Call (.Attribute (.Call (.Name "super" p0) [] [] p1) "__init__" p2) [.Constant (.str x) j p3] [] p4) p5 :: rest ∧ Asn slf rest l ∧
    ∀ env : Env, ∃ pl : Sem Bool, eval (.Call (.Attribute (.Call (.Name "super" p0) [] [] p1) "__init__" p2) [.Constant (.str x) j p3] [] p4) env = (do
      let ov ← attributeBase (.Call (.Name "super" p0) [] [] p1) "__init__" env (eval (.Call (.Name "super" p0) [] [] p1) env)
      standAt p2.atName
      let (f, first) ← holding [ov] (getMethod ov "__init__" pl)
      callWith p4 f first (backTo p4 (starEach [.Constant (.str x) j p3] env)) [])
  par : ∃ ar, (params.posonlyargs ++ params.args).head? = some ar ∧ ar.arg = slf
  ps0 : ∃ r, ps = slf :: r
  nd : ps.Nodup
  kind : scope.kind = .function
  co : scope.isCoroutine = false
  gen : scope.isGenerator = false
  nocell : ∀ y ∈ scope.names, y.2 ≠ .cell
  loc : ∀ y ∈ ps, scope.names.lookup y = some .local ∧ (y == ("__debug__" : Str)) = false
  sup2 : scope.names.lookup ("super" : Str) = some .globalImplicit
  cls2 : scope.names.lookup ("__class__" : Str) = some .free
  fld : ∀ z ∈ l, takerIn K C z.1 = some none ∧ ∀ y, z.2 = .inr y → y ∈ ps
  few : l.length ≤ 900
  psFew : ps.length ≤ 900
theorem zip_lookup : ∀ {ps : List Str} {us : List Value} {y : Str}, us.length = ps.length → y ∈ ps → ∃ v, (ps.zip us).lookup y = some v
  | [], _, _, _, m => nomatch m
  | p :: ps, [], _, h, _ => by simp at h
  | p :: ps, u :: us, y, h, m => by
    by_cases e : y = p
    · exact ⟨u, by subst e; simp [List.lookup]⟩
    · have : (y == p) = false := by simpa using e
      obtain ⟨v, hv⟩ := zip_lookup (ps := ps) (us := us) (y := y) (by simpa using h) ((List.mem_cons.mp m).resolve_left e)
      exact ⟨v, by simp [List.lookup, this, hv]⟩
theorem rev_lookup : ∀ (l : List (Str × Value)) (y : Str), (l.map (·.1)).Nodup → l.reverse.lookup y = l.lookup y
  | [], _, _ => rfl
  | (k, v) :: r, y, nd => by
    simp only [List.map_cons, List.nodup_cons] at nd
    rw [List.reverse_cons, List.lookup_append, rev_lookup r y nd.2]
    by_cases e : y = k
    · subst e
      have no : r.lookup y = none := by
        cases q : r.lookup y with
        | none => rfl
        | some v => exact absurd (List.mem_map.mpr ⟨_, PySem.mem_of_lookup q, rfl⟩) nd.1
      simp [no, List.lookup]
    · have : (y == k) = false := by simpa using e
      simp [List.lookup, this]
theorem init_run {f cda cc a t0 : Addr} {q slf : Str} {params : Arguments} {body : List Stmt} {scope : Scope} {ps : List Str} {l : List (Str × (Str ⊕ Str))} {us : List Value} {h₀ base : Heap} {mg : Str → Option Value} {R : Result → Shared → Prop}
    {fl : Str} (Y : XIn K C f cda cc B newId initId bmB q slf params body scope ps l fl) (hP : PrgOk prog fl) (KF : KxsFacts B initId) (FB : ExcBaseFacts B newId initId bmB) (SF : StoreFacts B bmB "object.__setattr__" "object") (hd : A.depth < recursionLimit)
    (Mo : L2.Mod K mg base) (hb : ∀ b o, base.get? b = some o → h₀.get? b = some o) (hm : mg "super" = none) (k0 : ∀ b o, h₀.get? b = some o → h.get? b = some o) (na : h₀.get? a = none) (lo : h₀.objs.size ≤ a) (he : h.get? a = some (excObj C t0 none .none)) (hl : (Value.ref a :: us).length = ps.length) {args : Args}
    (hbind : ∀ (kV doc pm : Value) (an : Option Addr) (cd ct : Value) (cc : Addr), bindArgs (ksFn "__init__" q params body scope .none kV doc pm an cd ct cc) args = pure (ps.zip (.ref a :: us)))
    (fin : ∀ h' tk fs dx t1, (∀ b o, h₀.get? b = some o → h'.get? b = some o) → Got (fun y => (ps.zip (.ref a :: us)).lookup y) l [] fs → h₀.objs.size ≤ dx → dx ≠ a → h'.get? a = some (excObj C t1 (some dx) .none) → (h'.Ns1 dx fun y => fs.lookup y) → l ≠ [] → R (.ok (.ret .none)) ⟨h', g, d, tk, os⟩) (hne : l ≠ []) :
    codeAny (model prog w) A (.call (.ref f) args) R ⟨h, g, d, t, os⟩ := by
  obtain ⟨oc, od, kV, doc, pm, an, ct, osl, lk⟩ := Y.fn
  obtain ⟨ccl, cdd, vs, ccs, tf, fl1, fl2⟩ := Y.file
  obtain ⟨cl, cld, csl, lcell⟩ := Y.cell
  obtain ⟨x, j, p0, p1, p2, p3, p4, p5, rest, hbody, asn, hcall⟩ := Y.body
  obtain ⟨ar, har, harS⟩ := Y.par
  obtain ⟨pr, hps⟩ := Y.ps0
  obtain ⟨mb, hmb1, hmb2⟩ := Mo.blt
  obtain ⟨cd, hcd, _⟩ := Y.cls.cd
  have X₀ : K.In h₀ := Mo.kin.keeps hb
  have ndz : ((ps.zip (.ref a :: us)).map (·.1)).Nodup := by
    rw [List.map_fst_zip (by omega)]; exact Y.nd
  have lookR : ∀ y, (ps.zip (Value.ref a :: us)).reverse.lookup y = (ps.zip (Value.ref a :: us)).lookup y := fun y => rev_lookup _ y ndz
  refine ks_codeAny_call_defAt (fd := ksFn "__init__" q params body scope .none kV doc pm an (.ref cda) ct cc) (body := body) (binds := ps.zip (.ref a :: us)) hd ((X₀.keeps k0) _ _ lk) rfl (Mo.nolimit.keeps fun b o e => k0 b o (hb b o e)) (codeRec_of (X₀.keeps k0) Y.code) rfl (.of_eq (hbind _ _ _ _ _ _ _)) Y.nocell
    (fun y m => (Y.loc y.1 (List.of_mem_zip m).1).1) (fun h₁ hns k1 => ?_) Y.co Y.gen Y.kind
  subst hbody
  have k01 : ∀ b o, h₀.get? b = some o → h₁.get? b = some o := fun b o e => k1 b o (k0 b o e)
  have X1 : K.In h₁ := X₀.keeps k01
  have eC : clsIn K C = some cd := hcd
  obtain ⟨oD, hD1, hD2⟩ : ∃ oD, h₁.get? C = some oD ∧ oD.data = .cls cd := by
    unfold clsIn at eC
    split at eC
    · rename_i c d' cd' sl ho
      cases eC
      exact ⟨_, X1 _ _ ho, rfl⟩
    · cases eC
  have he1 : h₁.get? a = some (excObj C t0 none .none) := k1 a _ he
  have aL : h.objs.size ≠ a := Nat.ne_of_gt (Heap.lt_size he)
  have aC : a ≠ C := fun z => by
    have : K.lookup C ≠ none := fun z => by unfold clsIn at eC; rw [z] at eC; cases eC
    cases q : K.lookup C with
    | none => exact this q
    | some o => rw [z, X₀ _ _ q] at na; cases na
  have I1 : InstAt h₁ a (excObj C t0 none .none) C none := ⟨he1, rfl, rfl, trivial⟩
  have ha : (ps.zip (Value.ref a :: us)).reverse.lookup slf = some (.ref a) := by
    rw [lookR, hps]
    simp [List.lookup]
  have locS : scope.names.lookup slf = some .local := (Y.loc slf (by rw [hps]; exact List.mem_cons_self)).1
  have hs : (ks_superIn K C C "__init__") = some (some (.builtin initId)) := Y.sup
  unfold ks_superIn at hs
  rw [hcd] at hs
  have inter : interactive (callEnv (ksFn "__init__" q params (.Expr (.Call (.Attribute (.Call (.Name "super" p0) [] [] p1) "__init__" p2) [.Constant (.str x) j p3] [] p4) p5 :: rest) scope .none kV doc pm an (.ref cda) ct cc) h.objs.size f) = false := by
    have hk := Y.kind
    simp [interactive, callEnv, newEnv, hk]
  obtain ⟨pl, hev⟩ := hcall (ksEnv q scope h.objs.size f (.ref cda) cc)
  refine ks_wpAt_execs_cons (ks_wpAt_Expr_any (ks_wpAt_MethodCall (pl := pl) (ks_wpAt_super_base (env := ksEnv q scope h.objs.size f (.ref cda) cc) Y.sup2 Y.cls2 (by decide) rfl (X1 _ _ lk) rfl har rfl (X1 _ _ fl1) rfl fl2 hP.1 hP.2 ?_) hev) (hi := inter))
  refine ks_loadName_global Y.kind Y.sup2 (loadGlobal_builtin (env := ksEnv q scope h.objs.size f (.ref cda) cc) (Mo.glob.keeps fun b o e => k01 b o (hb b o e)) hm (hmb1.keeps fun b o e => k01 b o (hb b o e)) ((hmb2 _ (by decide +kernel)).trans (by first | boot_by_name | rfl | kernel_rfl)) ⟨rfl, ?_⟩)
  refine wpAny_loadName_free Y.kind Y.cls2 rfl ⟨_, X1 _ _ lcell, rfl⟩ ?_
  refine wpAny_loadName_local Y.kind (by rw [harS]; exact locS) hns (by rw [harS]; exact ha) ?_
  refine ks_wpAny_isType_cls hD1 hD2 ⟨rfl, ?_⟩
  refine ks_wpAny_call_super hD1 hD2 he1 rfl (fun c e => by cases e) (looks_mroIn X1 Y.own) fun h2 so k2 => ?_
  have k02 : ∀ b o, h₀.get? b = some o → h2.get? b = some o := fun b o e => k2 b o (k01 b o e)
  have X2 : K.In h2 := X₀.keeps k02
  have he2 := k2 a _ he1
  have I2 : InstAt h2 a (excObj C t0 none .none) C none := ⟨he2, rfl, rfl, trivial⟩
  refine kxs_getMethod KF so (looks_opaque X2 Y.any) (l₀ := cd.mro) (fun A Q E s k q => wpAny_bind ((looks_clsIn X2 hcd) A _ E s k (wpAny_pure q))) rfl X2 hs (I2.type.andThen (looks_subIn X2 Y.sub)) aC (by decide) ?_
  have k3 : ∀ b o, h2.get? b = some o → (h2.push (kxs_mw initId a)).get? b = some o := fun b o e => Heap.get?_push_of_some _ e
  refine kxs_callWith (i := initId) (x := a) (by rfl) (evalArgs_plain ?_)
  show wpAny _ _ (spliced ((false, eval (.Constant (.str x) j p3) _) :: backTo p4 (starEach [] _))) _ _ _
  refine Calls.spliced_cons (Calls.Constant_str (Calls.spliced_nil ⟨Heap.get?_push_size _ rfl, ?_⟩))
  refine bound_call (X₀.keeps fun b o e => k3 b o (k02 b o e)) Y.ini FB (k3 a _ he2) (Heap.get?_push_size _ rfl) (show 1 ≤ sizeLine by decide) fun h4 t1 k4 at4 => ?_
  have k04 : ∀ b o, h₀.get? b = some o → h4.get? b = some o := fun b o e => k4 b o (fun z => by rw [z, na] at e; cases e) (k3 b o (k02 b o e))
  have hnl : h4.Ns h.objs.size (fun y => (ps.zip (Value.ref a :: us)).lookup y) := by
    have e : (fun y => (ps.zip (Value.ref a :: us)).reverse.lookup y) = fun y => (ps.zip (Value.ref a :: us)).lookup y := funext lookR
    rw [e] at hns
    exact ns_at hns fun o eo => k4 _ o aL (k3 _ o (k2 _ o eo))
  refine wpAt_of_wpAny (assigns (env := ksEnv q scope h.objs.size f (.ref cda) cc) X₀ na lo Y.cls SF Y.kind locS (by rw [← lookR]; exact ha) aL (Y.loc slf (by rw [hps]; exact List.mem_cons_self)).2 asn k04 hnl ⟨t1, .inl ⟨rfl, at4⟩⟩ (by simpa using Y.few) (fun z m => (Y.fld z m).1) (fun z m y ey => ?_) fun h' tk fs c1 c2 c3 => ?_)
  · have my := (Y.fld z m).2 y ey
    obtain ⟨v, hv⟩ := zip_lookup (us := Value.ref a :: us) hl my
    exact ⟨(Y.loc y my).1, ⟨v, hv⟩, (Y.loc y my).2⟩
  · obtain ⟨t2, ⟨e1, _⟩ | ⟨dx, d1, d2, _, d4, d5⟩⟩ := c3
    · have := c2.len
      rw [e1] at this
      cases l with
      | nil => exact absurd rfl hne
      | cons z r => simp at this
    · exact fin h' tk fs dx t2 c1 c2 d1 d2 d4 d5 hne
/-- C(..): the new exception, its dict -/
theorem make_run {f cda cc : Addr} {q slf : Str} {params : Arguments} {body : List Stmt} {scope : Scope} {ps : List Str} {l : List (Str × (Str ⊕ Str))} {us : List Value} {base : Heap} {mg : Str → Option Value} {R : Result → Shared → Prop} {fl : Str}
    (Y : XIn K C f cda cc B newId initId bmB q slf params body scope ps l fl) (hP : PrgOk prog fl) (KF : KxsFacts B initId) (FB : ExcBaseFacts B newId initId bmB) (SF : StoreFacts B bmB "object.__setattr__" "object") (iC : findIn K (.ref C) "__init__" = some (some (.ref f))) (tI : typeIn K (.ref f) = some (.type "function"))
    (hd : (A.under (.builtin "type.__call__" ⟨.ref C :: us, []⟩)).depth < recursionLimit) (Mo : L2.Mod K mg base) (hb : ∀ b o, base.get? b = some o → h.get? b = some o) (hm : mg "super" = none) (hl : us.length + 1 = ps.length) (hu : us.length ≤ sizeLine)
    (fin : ∀ h' tk fs dx t1 a, (∀ b o, h.get? b = some o → h'.get? b = some o) → Got (fun y => (ps.zip (.ref a :: us)).lookup y) l [] fs → h.objs.size ≤ dx → dx ≠ a → h.objs.size ≤ a → h'.get? a = some (excObj C t1 (some dx) .none) → (h'.Ns1 dx fun y => fs.lookup y) → R (.ok (.ret (.ref a))) ⟨h', g, d, tk, os⟩) (hne : l ≠ []) :
    codeAny (model prog w) A (.call (.ref C) ⟨us, []⟩) R ⟨h, g, d, t, os⟩ := by
  have X : K.In h := Mo.kin.keeps hb
  obtain ⟨nm, N', qn, bs, bm, hdct, sn, sub, ab, col, dd, k0, k1, k2, k3, k5, hC, hT⟩ := excInit_of X Y.ini
  have keep : ∀ b o, h.get? b = some o → ((h.push (kdv_tup us)).push (PySem.HandSPX.excO C h.objs.size)).get? b = some o := fun b o e => Heap.get?_push_of_some _ (Heap.get?_push_of_some _ e)
  have hget : ((h.push (kdv_tup us)).push (PySem.HandSPX.excO C h.objs.size)).get? (h.objs.size + 1) = some (excObj C h.objs.size none .none) := by
    show _ = some (PySem.HandSPX.excO C h.objs.size)
    heap_get
  have na : h.get? (h.objs.size + 1) = none := by
    cases q : h.get? (h.objs.size + 1) with
    | none => rfl
    | some o => exact absurd (Heap.lt_size q) (Nat.not_lt_of_le (Nat.le_succ _))
  refine PySem.HandSPX.call_own FB hT hC (looks_findIn X iC) (fun s => bind_fn X s tI) hu ?_
  exact init_run (R := InitBack (h.objs.size + 1) R) Y hP KF FB SF hd Mo hb hm keep na (Nat.le_succ _) hget (by simpa using hl) (fun kV doc pm an cd ct cc => Y.bd kV doc pm an cd ct cc _ (by simpa using hl)) (fun h' tk fs dx t1 c1 c2 c3 c4 c5 c6 _ => ⟨rfl, fin h' tk fs dx t1 _ c1 c2 c3 c4 (Nat.le_succ _) c5 c6⟩) hne
end
end REX
end
section
set_option maxRecDepth 100000
set_option maxHeartbeats 4000000
/-! own exceptions as values -/
namespace RL
open PySem PySem.Spec L2 OrdX
open PyProof.Rows hiding St
variable [Lams]
/-- what the fields are behind a row of stores -/
noncomputable def fldR {α : Type} (lit : Str → α) (look : Str → Option α) : List (Str × (Str ⊕ Str)) → List (Str × α) → Option (List (Str × α))
  | [], acc => some acc
  | (f, .inl x) :: l, acc => fldR lit look l ((f, lit x) :: acc)
  | (f, .inr y) :: l, acc => match look y with
    | some v => fldR lit look l ((f, v) :: acc)
    | none => none
inductive RelF : List (Str × V) → List (Str × Value) → Prop where
  | nil : RelF [] []
  | cons {f v u a b} (h : RelV v u) (r : RelF a b) : RelF ((f, v) :: a) ((f, u) :: b)
theorem RelF.look {a : List (Str × V)} {b : List (Str × Value)} (r : RelF a b) (f : Str) : RelO (a.lookup f) (b.lookup f) := by
  induction r with
  | nil => exact True.intro
  | @cons g v u a b h r ih =>
    by_cases e : f = g
    · subst e; simp [List.lookup]; exact h
    · have : (f == g) = false := by simpa using e
      simp [List.lookup, this]; exact ih
theorem got_rel {lv : Str → Option V} {lu : Str → Option Value} : ∀ {l : List (Str × (Str ⊕ Str))} {acc fs : List (Str × Value)} {accv fv : List (Str × V)}, (∀ z ∈ l, ∀ y v, z.2 = .inr y → lv y = some v → ∃ u, lu y = some u ∧ RelV v u) → REX.Got lu l acc fs → RelF accv acc → fldR V.str lv l accv = some fv → RelF fv fs
  | [], _, _, _, _, _, .nil, r, e => by cases (Option.some.inj e : _ = _); exact r
  | (f, .inl x) :: l, _, _, _, _, hl, .lit t h, r, e => got_rel (fun z m => hl z (List.mem_cons_of_mem _ m)) h (.cons (v := .str x) ⟨t, rfl⟩ r) e
  | (f, .inr y) :: l, _, _, accv, fv, hl, .par e1 h, r, e => by
    simp only [fldR] at e
    cases q : lv y with
    | none => rw [q] at e; cases e
    | some v =>
      rw [q] at e
      obtain ⟨u, h1, h2⟩ := hl _ List.mem_cons_self y v rfl q
      rw [e1] at h1; cases h1
      exact got_rel (fun z m => hl z (List.mem_cons_of_mem _ m)) h (.cons h2 r) e
section
variable {K : PySem.W.Frag} {mg : Str → Option Value} {ρ : RT} {H : Hp}
/-- the fields as trees, as values -/
theorem fld_rel {lw : Str → Option W} {lv : Str → Option V} : ∀ {l : List (Str × (Str ⊕ Str))} {accw fw : List (Str × W)} {accv : List (Str × V)}, (∀ z ∈ l, ∀ y w, z.2 = .inr y → lw y = some w → ∃ v, lv y = some v ∧ RW K mg ρ H w v) → accw.map (·.1) = accv.map (·.1) → RWs K mg ρ H (accw.map (·.2)) (accv.map (·.2)) →
    fldR W.str lw l accw = some fw → ∃ fv, fldR V.str lv l accv = some fv ∧ fw.map (·.1) = fv.map (·.1) ∧ RWs K mg ρ H (fw.map (·.2)) (fv.map (·.2))
  | [], _, _, _, _, hn, hr, e => by cases (Option.some.inj e : _ = _); exact ⟨_, rfl, hn, hr⟩
  | (f, .inl x) :: l, accw, fw, accv, hl, hn, hr, e => fld_rel (l := l) (accw := (f, .str x) :: accw) (accv := (f, .str x) :: accv) (fun z m => hl z (List.mem_cons_of_mem _ m)) (by rw [List.map_cons, List.map_cons, hn]) (.cons (.str x) hr) e
  | (f, .inr y) :: l, accw, fw, accv, hl, hn, hr, e => by
    simp only [fldR] at e
    cases q : lw y with
    | none => rw [q] at e; cases e
    | some w =>
      rw [q] at e
      obtain ⟨v, h1, h2⟩ := hl _ List.mem_cons_self y w rfl q
      obtain ⟨fv, g1, g2⟩ := fld_rel (l := l) (accw := (f, w) :: accw) (accv := (f, v) :: accv) (fun z m => hl z (List.mem_cons_of_mem _ m)) (by rw [List.map_cons, List.map_cons, hn]) (.cons h2 hr) e
      refine ⟨fv, ?_, g2⟩
      simp only [fldR, h1]; exact g1
theorem zip_rws : ∀ {ps : List Str} {ws : List W} {vs : List V} {y : Str} {w : W}, RWs K mg ρ H ws vs → (ps.zip ws).lookup y = some w → ∃ v, (ps.zip vs).lookup y = some v ∧ RW K mg ρ H w v
  | [], _, _, _, _, _, h => by simp [List.lookup] at h
  | p :: ps, _, _, _, _, .nil, h => by simp [List.lookup] at h
  | p :: ps, _, _, y, w, .cons r t, h => by
    by_cases e : y = p
    · subst e
      simp [List.lookup] at h ⊢
      subst h; exact r
    · have : (y == p) = false := by simpa using e
      simp [List.lookup, this] at h ⊢
      exact zip_rws t h
theorem zip_vals : ∀ {ps : List Str} {vs : List V} {us : List Value} {y : Str} {v : V}, Vals vs us → (ps.zip vs).lookup y = some v → ∃ u, (ps.zip us).lookup y = some u ∧ RelV v u
  | [], _, _, _, _, _, h => by simp [List.lookup] at h
  | p :: ps, _, _, _, _, .nil, h => by simp [List.lookup] at h
  | p :: ps, _, _, y, v, .cons r t, h => by
    by_cases e : y = p
    · subst e
      simp [List.lookup] at h ⊢
      subst h; exact r
    · have : (y == p) = false := by simpa using e
      simp [List.lookup, this] at h ⊢
      exact zip_vals t h
end
/-- C(..) of an own exception's class -/
noncomputable def gMakeX (c : Str) (ps : List Str) (l : List (Str × (Str ⊕ Str))) (ws : List W) (S : Store) : Res W := if ws.length = ps.length then (match fldR W.str (fun y => (ps.zip ws).lookup y) l [] with
  | some fw => .ok (.exn c (fw.map (·.1)) (fw.map (·.2))) S
  | none => .bad) else .bad
/-- the class c, its __init__ with the parameters ps keeps l; the program's file is fl -/
noncomputable def XTx (K : PySem.W.Frag) (mg : Str → Option Value) (c : Str) (st : Stmt) (slf : Str) (ps : List Str) (l : List (Str × (Str ⊕ Str))) (fl : Str) : Prop :=
  ∃ (C f cda cc : Addr) (B newId initId : String) (bmB : List Value) (q : Str), mg c = some (.ref C) ∧ PySem.W.findIn K (.ref C) "__init__" = some (some (.ref f)) ∧ PySem.W.typeIn K (.ref f) = some (.type "function") ∧ PySem.W.keepIn K (.ref C) = true ∧
    REX.XIn K C f cda cc B newId initId bmB q slf (defArgs st) (defBody st) (defScope st) (slf :: ps) l fl ∧ PySem.W.KxsFacts B initId ∧ ExcBaseFacts B newId initId bmB ∧ StoreFacts B bmB "object.__setattr__" "object" ∧ l ≠ [] ∧ ∀ z ∈ l, ∀ y, z.2 = .inr y → y ∈ ps
section
variable {X : Cx} {pins : List (Addr × Obj)} {σ : L2.St} {H : Hp} {s : Shared}
theorem zip_names {fv : List (Str × V)} {ns : List Str} (h : ns = fv.map (·.1)) : ns.zip (fv.map (·.2)) = fv := by
  subst h
  induction fv with
  | nil => rfl
  | cons p r ih => simp [ih]
end
section
variable {X : Cx} {E : EK} {pos apos p : Pos} {e o : Expr} {es : List Expr} {ma : SM W} {mr : SM (List W)} {c f fl slf : Str} {st : Stmt} {k' : Nat} {ps : List Str} {l : List (Str × (Str ⊕ Str))}
theorem exw_inst {P : Program} {w : World} {H : Hp} {h : Heap} {a C dx : Addr} {od : Obj} (hok : HOk P w H h) (ha : H a = some (exw a C (some dx))) (hod : h.get? dx = some od) : ∃ oe, PySem.W.InstAt h a oe C (some od) := by
  obtain ⟨⟨oe, vs, h1, h2, h3, h4⟩, _, _⟩ := (show ObjOk P w H h a (exw a C (some dx)) from hok a _ ha)
  exact ⟨oe, h1, h2, by unfold PySem.W.notCls; rw [h4], by rw [h3]; exact hod⟩
/-- e.f of an exception of one of the classes cs -/
noncomputable def gXFld (cs : List Str) (f : Str) (w : W) (S : Store) : Res W := match w with
  | .exn c ns ws => if c ∈ cs then (match (ns.zip ws).lookup f with
    | some v => .ok v S
    | none => .bad) else .bad
  | _ => .bad
noncomputable def XfT (K : PySem.W.Frag) (mg : Str → Option Value) (cs : List Str) (f : Str) : Prop := ∀ c ∈ cs, ∀ C, mg c = some (.ref C) → XfC K C ∧ PySem.W.findIn K (.ref C) f = some none
theorem pm_xfld {cs : List Str} (T : XfT X.K X.mg cs f) (ha : PM X E e ma) (hb : attributeBase e f X.env (eval e X.env) = eval e X.env := by rfl) : PM X E (.Attribute e f pos) (mUn (gXFld cs f) ma) := by
  refine ⟨fun pins s σ H Q I h => ?_⟩
  refine attr_of hb (thn (ha.run pins s σ H (fun x H1 => ∃ ρ S w, RepS X.K X.mg ρ H1 S ∧ RW X.K X.mg ρ H1 w x ∧ Out X.K X.mg (RW X.K X.mg) E ρ H1 (gXFld cs f w S) Q) I (tX.bind (m := ma) (k := fun w s S => gXFld cs f w S) h fun ρ1 H1 w v s S1 rep env r o => ⟨ρ1, S1, w, rep, r, o⟩)) fun u s1 ⟨x, H1, I1, rx, ρ, S, w, rep, r, o⟩ => ?_)
  unfold gXFld at o
  split at o
  · rename_i c ns ws
    split at o
    · rename_i hc
      cases r with
      | @exn a C dx _ _ _ vs hC hx hd hl hr =>
        obtain rfl : u = Value.ref a := rx
        obtain ⟨T1, hno⟩ := T c hc C hC
        cases e1 : (ns.zip ws).lookup f with
        | none => rw [e1] at o; exact o.elim
        | some wv =>
          rw [e1] at o
          dsimp only at o
          obtain ⟨v, e2, rv⟩ := zip_rws hr e1
          obtain ⟨mA, hns, rel⟩ := (show ObjOk X.prog X.w H1 s1.heap dx (.xd (ns.zip vs)) from I1.hok dx _ hd.1)
          obtain ⟨od, hod, hlk⟩ := lookIn_ns hns
          obtain ⟨u, hu, ru⟩ := RelO.some_of (v := v) (o := mA f) (by rw [← e2]; exact rel f)
          obtain ⟨oe, J⟩ := exw_inst I1.hok hx.1 hod
          exact HandSPX.exc_get I1.kIn J T1.ga T1.gg T1.exC (PySem.W.findObj_own T1.hdC hno rfl (by rw [hlk, hu])) (handed_of ru) ⟨v, H1, I1.tok _, ru, Out.here o rep rv⟩
    · exact o.elim
  · exact o.elim
/-- an exception's class, as isinstance wants it -/
structure XiC (K : PySem.W.Frag) (C : Addr) : Prop where
  xf : XfC K C
  cl : (PySem.W.clsIn K C).isSome = true
  ha : PySem.W.findIn K (.ref C) "__class__" = some (some (.builtin "object.__class__"))
  hn : PySem.W.specialIn K (.builtin "object.__class__") "__get__" = some (some (.builtin "getset_descriptor.__get__"))
  ht : PySem.W.takesIn K (.builtin "object.__class__") = some true
  hm : PySem.W.mroIn K C (.type "object") = some true
end
end RL
end
section
set_option maxRecDepth 100000
set_option maxHeartbeats 4000000
/-! own exceptions made by keyword -/
namespace REX
open PySem PySem.Spec PySem.Calls PyProof.Rows PySem.W
open Builtin
section
variable {prog : Program} {w : World} {A : Around} {E : Value → Shared → Prop} {R : Result → Shared → Prop} {h : Heap} {g : Array GenState} {d : Drawn} {t : Nat} {os : OsState}
variable {nm q : Str} {C N : Addr} {bs bm bmB : List Value} {hdct : Bool} {sn : List Str} {sub : List Value} {ab : Bool} {col : Option Bool} {dd : Option Addr} {k0 k1 k2 k3 k5 : Option Value} {B newId initId : String} {kw : List (Str × Value)}
noncomputable abbrev laid (h : Heap) (C : Addr) : Heap := (h.push { cls := .type "tuple", data := .seq ([] : List Value).toArray }).push (PySem.HandSPX.excO C h.objs.size)
end
end REX
namespace RL
open PySem PySem.Spec L2 OrdX
open PyProof.Rows hiding St
end RL
end
section
set_option maxRecDepth 100000
set_option maxHeartbeats 4000000
/-! raise C(..) of an own exception's class -/
namespace RL
open PySem PySem.Spec L2 OrdX
open PyProof.Rows hiding St
variable [Lams]
/-- it may be raised -/
noncomputable def RaT (K : PySem.W.Frag) (mg : Str → Option Value) (c : Str) : Prop := ∀ C, mg c = some (.ref C) → PySem.W.subIn K (.ref C) (.type "BaseException") = some true ∧ PySem.W.typeIn K (.ref C) = some (.type "type")
noncomputable def mRaise (m : SM W) : SS := fun s S => (m s S).bind fun w S1 => match w with
  | .exn c ns ws => .exc c ns ws S1
  | _ => .bad
/-- the wish behind the making -/
noncomputable def OutX (X : Cx) (Qx : XK) (ρ : RT) (H : Hp) (r : Res W) : Prop := match r with
  | .ok (.exn c ns ws) S => ExcOut X.K X.mg Qx ρ H c ns ws S
  | _ => False
section
variable {X : Cx} {pins : List (Addr × Obj)} {σ : L2.St} {H : Hp} {s : Shared} {Qx : XK}
theorem makeX_mkp {c fl : Str} {ps : List Str} {l : List (Str × (Str ⊕ Str))} {C f cda cc : Addr} {B newId initId : String} {bmB : List Value} {q slf : Str} {params : Arguments} {body : List Stmt} {scope : Scope} {ws : List W} {vs : List V} {us : List Value} {ρ : RT} {S : Store} {fw : List (Str × W)}
    (Y : REX.XIn X.K C f cda cc B newId initId bmB q slf params body scope (slf :: ps) l fl) (hpar : ∀ z ∈ l, ∀ y, z.2 = .inr y → y ∈ ps) (hC : X.mg c = some (.ref C)) (hra : Raises X (.ref C)) (I : Inv X pins σ H s) (r : Vals vs us) (rep : RepS X.K X.mg ρ H S) (rw' : RWs X.K X.mg ρ H ws vs)
    (ew : fldR W.str (fun y => (ps.zip ws).lookup y) l [] = some fw) (o : ExcOut X.K X.mg Qx ρ H c (fw.map (·.1)) (fw.map (·.2)) S) {h' : Heap} {tk' : Nat} {fs : List (Str × Value)} {dx : Nat} {t1 a : Addr}
    (keep : ∀ b o, s.heap.get? b = some o → h'.get? b = some o) (got : REX.Got (fun y => ((slf :: ps).zip (Value.ref a :: us)).lookup y) l [] fs) (c2 : s.heap.objs.size ≤ dx) (c3 : dx ≠ a) (c4 : s.heap.objs.size ≤ a) (c5 : h'.get? a = some (PySem.W.excObj C t1 (some dx) .none)) (c6 : h'.Ns1 dx fun y => fs.lookup y) :
    MkP X pins σ Qx (.ref a) { s with heap := h', toks := tk' } := by
  obtain ⟨fv, g1, g2, g3⟩ := fld_rel (lv := fun y => (ps.zip vs).lookup y) (accw := []) (accv := []) (fun z m y w _ h => zip_rws rw' h) rfl .nil ew
  have ndS : slf ∉ ps := (List.nodup_cons.mp Y.nd).1
  have rf : RelF fv fs := got_rel (lv := fun y => (ps.zip vs).lookup y) (accv := []) (fun z m y v ez h => by
    have hy := hpar z m y ez
    have : (y == slf) = false := by
      have : y ≠ slf := fun e => ndS (e ▸ hy)
      simpa using this
    obtain ⟨u, h1, h2⟩ := zip_vals r h
    exact ⟨u, by simp [List.lookup, this, h1], h2⟩) got .nil g1
  have fa : H a = none := I.hok.fresh c4
  have fd : H dx = none := I.hok.fresh c2
  obtain ⟨G, G1, G2⟩ := L2.restrict h' fun b => decide (b ≠ a)
  have gO : ∀ b, b ≠ a → G.get? b = h'.get? b := fun b n => G1 b (by simpa using n)
  have gA : G.get? a = none := G2 a (by simp)
  have gK : ∀ b o, G.get? b = some o → h'.get? b = some o := fun b o e => by
    rw [gO b fun z => by rw [z, gA] at e; cases e] at e
    exact e
  have kG : ∀ b u, s.heap.get? b = some u → G.get? b = some u := fun b u e => by
    rw [gO b (Nat.ne_of_lt (Nat.lt_of_lt_of_le (Heap.lt_size e) c4))]
    exact keep b u e
  have J := I.laid (a := dx) (o := .xd fv) (h' := G) (t' := tk') kG c2 (by
    obtain ⟨o, es, ep, e, r⟩ := c6
    exact ⟨_, ⟨o, es, ep, (gO dx c3).trans e, r⟩, fun f => rf.look f⟩)
  obtain ⟨e1, rep1⟩ := rep.tree fd (.xd fv)
  refine ⟨a, _, _, _, _, .ref C, some dx, rfl, J, gK, gA, c5, ⟨rfl, rfl⟩, rfl, rfl, by rw [upd_ne (Ne.symm c3)]; exact fa, rfl, I.bare, hra, ?_⟩
  refine o ρ _ C dx (fv.map (·.2)) e1 rep1 hC ?_ ?_ (g3.ext e1)
  · rw [zip_names g2]; exact fx_new rep fd _
  · rw [g2, List.length_map, List.length_map]
variable {E : EK} {pos apos cpos p : Pos} {e o : Expr} {es : List Expr} {ma : SM W} {mr : SM (List W)} {c f fl slf : Str} {st : Stmt} {k' : Nat} {ps : List Str} {l : List (Str × (Str ⊕ Str))}
theorem raX_core {C : Addr} {ws : List W} {vs : List V} {us : List Value} {ρ : RT} {S : Store} (T : XTx X.K X.mg c st slf ps l fl) (hP : REX.PrgOk X.prog fl) (hs : X.mg "super" = none) (hr : Room k' X.A) (hra : RaT X.K X.mg c) (hC : X.mg c = some (.ref C))
    (I : Inv X pins σ H s) (r : Vals vs us) (rep : RepS X.K X.mg ρ H S) (rw' : RWs X.K X.mg ρ H ws vs) (o : OutX X Qx ρ H (gMakeX c ps l ws S)) : wpAny (model X.prog X.w) X.A (call (.ref C) us) (MkP X pins σ Qx) X.xe s := by
  have hra := raises_own (X := X) (hra C hC).1 (hra C hC).2
  obtain ⟨C', f, cda, cc, B, newId, initId, bmB, q, t1, t2, t3, t4, Y, KF, FB, SF, hne, hpar⟩ := T
  rw [hC] at t1; cases t1
  unfold gMakeX at o
  split at o
  · rename_i hz
    cases ew : fldR W.str (fun y => (ps.zip ws).lookup y) l [] with
    | none => rw [ew] at o; exact o.elim
    | some fw =>
      rw [ew] at o
      have hlen : us.length = ps.length := by rw [← r.length, ← rw'.length, hz]
      obtain ⟨hp, gg, dr, tk, os⟩ := s
      have few : us.length ≤ sizeLine := by
        have := Y.psFew
        rw [List.length_cons] at this
        rw [hlen, sizeLine_eq]; omega
      exact wpAny_call (REX.make_run Y hP KF FB SF t2 t3 (by rw [make_depth]; have := hr.dp; omega) I.ok.mod I.bk hs (by simp [hlen]) few (fun h' tk' fs dx t1 a keep got c2 c3 c4 c5 c6 => makeX_mkp Y hpar hC hra I r rep rw' ew o keep got c2 c3 c4 c5 c6) hne)
  · exact o.elim
theorem gMakeX_or (ws : List W) (S : Store) : gMakeX c ps l ws S = .bad ∨ ∃ ns us, gMakeX c ps l ws S = .ok (.exn c ns us) S := by
  unfold gMakeX
  split
  · cases fldR W.str (fun y => (ps.zip ws).lookup y) l [] with
    | none => exact .inl rfl
    | some fw => exact .inr ⟨_, _, rfl⟩
  · exact .inl rfl
/-- raise C(e, ..) -/
theorem psm_raiseX (hc : X.calm = true) (tk : Takes X (fun c d _ H => E c d H)) (T : XTx X.K X.mg c st slf ps l fl) (hP : REX.PrgOk X.prog fl) (hs : X.mg "super" = none) (hr : Room k' X.A) (hra : RaT X.K X.mg c) (ha : PAM X E (e :: es) mr) (hg : Gl X c := by rfl) (hdb : (c == ("__debug__" : Str)) = false := by decide +kernel)
    (he : starEach (e :: es) X.env = (false, eval e X.env) :: starEach es X.env := by rfl) (hpl : (backTo cpos (starEach es X.env)).any (·.1) = false := by rfl) : PSM X E (.Raise (some (.Call (.Name c p) (e :: es) [] cpos)) none pos) (mRaise (mAp (gMakeX c ps l) mr)) := by
  obtain ⟨C, _, _, _, _, _, _, _, _, h1, _, _, h4, _⟩ := id T
  have pmk : PMk X (.Call (.Name c p) (e :: es) [] cpos) (fun σ H Qx => tA X E mr σ H fun vs H1 => ∃ ρ S ws, RepS X.K X.mg ρ H1 S ∧ RWs X.K X.mg ρ H1 ws vs ∧ OutX X Qx ρ H1 (gMakeX c ps l ws S)) := by
    intro pins s σ H Q I h
    refine wpAny_Call_Name_kw (ld_glob I hg h1 ?_ hdb)
    refine PySem.W.callWith_K (h₀ := X.base) I.ok.mod.kin h4 (thn (ha.run cpos pins s σ H _ I h) fun us s1 ⟨vs, H1, I1, r, ρ, S, ws, rep, rw', o⟩ => ⟨I1.kIn, ?_⟩) he hpl
    exact raX_core T hP hs hr hra h1 I1 r rep rw' o
  refine ps_imp (ps_raise hc tk pmk) fun D σ H ⟨ρ, s, S, rep, env, o⟩ => ?_
  refine ⟨ρ, s, S, rep, env, ?_⟩
  unfold mRaise mAp at o
  cases e1 : mr s S with
  | ok ws S1 =>
    rw [e1] at o
    intro ρ1 H1 vs x rep1 r
    refine ⟨ρ1, S1, ws, rep1, r, ?_⟩
    have o : OutS X.K X.mg E ρ H ((gMakeX c ps l ws S1).bind fun w S1 => match w with
      | .exn c ns ws => .exc c ns ws S1
      | _ => .bad) D := o
    rcases gMakeX_or (c := c) (ps := ps) (l := l) ws S1 with z | ⟨ns, us, z⟩
    · rw [z] at o; exact o.elim
    · rw [z] at o ⊢
      exact ExcOut.ext x o
  | exc cn ns ws S1 => rw [e1] at o; exact o
  | bad => rw [e1] at o; exact o
end
end RL
end
section
set_option maxRecDepth 100000
set_option maxHeartbeats 4000000
/-! try: .. / except (A, B, C) as e: .., the exception known in the suite -/
namespace RL
open PySem PySem.Spec L2
open PyProof.Rows hiding St
variable [Lams]
section
variable {X : Cx} {pins pn' : List (Addr × Obj)} {σ : L2.St} {H : Hp} {s : Shared}
/-- the suite's state: the exception is known -/
theorem inv_suiteT {a C : Addr} {d : Option Addr} {oe : Obj} {vs : Array Value} (J : Inv X pins σ H s) (he : s.heap.get? a = some oe) (hc : oe.cls = .ref C) (hdd : oe.dict = d) (hd : oe.data = .fields vs) (na : H a = none) (n0 : X.s_0.heap.get? a = none) (nL : a ≠ X.env.locals) (nP : ∀ p ∈ X.pn ++ pins, p.1 ≠ a) :
    Inv (X.suite a (X.pn ++ pins)) [] σ (upd H a (exw a C d)) s := by
  refine ⟨J.ok.suite _ _, J.os, J.bare, ⟨J.base.keep, J.base.slot, fun b o e n hx => ?_, J.base.there, fun b xs e => ?_, fun b o xs e => ?_, fun b ps e => ?_⟩, J.loc, J.cell, ?_, fun y c e => ?_, fun p hp => ?_, fun b u e => ?_, J.len⟩
  · rw [upd_ne (fun z : b = a => by rw [z] at e; exact nomatch (n0.symm.trans e))]
    exact J.base.free b o e n hx
  · have q := J.base.tups b xs e
    rw [upd_ne (ne_of_none q na)]; exact q
  · have q := J.base.frzs b o xs e
    rw [upd_ne (ne_of_none q na)]; exact q
  · obtain ⟨more, q⟩ := J.base.tbls b ps e
    exact ⟨more, by rw [upd_ne (ne_of_none q na)]; exact q⟩
  · show upd H a (exw a C d) X.env.locals = none
    rw [upd_ne (Ne.symm nL)]; exact J.free
  · have e : X.env.cells.lookup y = some c := e
    obtain ⟨v, o, ho, hdc⟩ := J.cell y c e
    rw [upd_ne (fun z : c = a => by rw [z, he] at ho; cases ho; rw [hd] at hdc; cases hdc)]
    exact J.freeC y c e
  · have hp' : p ∈ X.pn ++ pins := by rw [List.append_nil] at hp; exact hp
    obtain ⟨h1, h2, h3⟩ := J.pin p hp'
    exact ⟨h1, by rw [upd_ne (nP p hp')]; exact h2, h3⟩
  · by_cases hb : b = a
    · subst hb; rw [upd_same] at e; cases e
      exact exw_ok he hc hdd hd
    · rw [upd_ne hb] at e
      exact (J.hok b u e).stay (fun _ _ _ q => q) (fun c q => by rw [upd_ne (ne_of_none q na)]; exact q) fun c xs q => by rw [upd_ne (ne_of_none q na)]; exact q
theorem inv_unsuiteT {a : Addr} (I : Inv (X.suite a (X.pn ++ pins)) pn' σ H s) (ok : X.Ok) : Inv X pins σ H s where
  ok := ok
  os := I.os
  bare := I.bare
  base := I.base
  loc := I.loc
  cell := I.cell
  free := I.free
  freeC := I.freeC
  pin := fun p hp => I.pin p (List.mem_append_left _ hp)
  hok := I.hok
  len := I.len
theorem flyZ_kept {B h h' : Heap} {l : List Env} {a : Addr} {Z : Obj → Prop} (f : HandSPX.FlyingZ B l a Z h) (k : ∀ b o, h.get? b = some o → h'.get? b = some o) : HandSPX.FlyingZ B l a Z h' := by
  obtain ⟨f1, f2, f3, oe, vs, T, oT, ts, he, hz, hd, h1, hnT, hTe, hT, hdT, h3⟩ := f
  exact ⟨fun b o e => k b o (f1 b o e), f2, f3.of_keeps fun b o e _ => ⟨o, k b o e, rfl⟩, oe, vs, T, oT, ts, k _ _ he, hz, hd, h1, hnT, hTe, k _ _ hT, hdT, h3⟩
/-- an exception that this frame has caught: y the state without it, s the state with it -/
structure Fell (X : Cx) (pins : List (Addr × Obj)) (σ : L2.St) (H : Hp) (B : Heap) (y : Shared) (a : Addr) (cls : Value) (d : Option Addr) (s : Shared) : Prop where
  inv : Inv X pins σ H y
  ground : ∀ b o, y.heap.get? b = some o → b ∉ frs X.stack → B.get? b = some o
  fly : HandSPX.FlyingZ B X.stack a (Zc cls d) s.heap
  up : y.heap.UpToSlots s.heap
  new : H a = none
  os : s.os = y.os
  bare : AllBare s.gens
section
variable {B : Heap} {y : Shared} {a : Addr} {cls : Value} {d : Option Addr}
/-- it goes on with another heap -/
theorem Fell.move (f : Fell X pins σ H B y a cls d s) {h : Heap} {t : Nat} (fl : HandSPX.FlyingZ B X.stack a (Zc cls d) h) (u : s.heap.UpToSlots h) : Fell X pins σ H B y a cls d { s with heap := h, toks := t } :=
  { f with fly := fl, up := f.up.trans u }
theorem Fell.here (f : Fell X pins σ H B y a cls d s) : Inv X pins σ H s := f.inv.landed f.ground f.fly.1 f.up f.os f.bare
theorem Fell.notIn (f : Fell X pins σ H B y a cls d s) : a ∉ frs X.stack ∧ y.heap.get? a = none := by
  obtain ⟨o, vs, e, _, fd⟩ := f.fly.there
  have out : a ∉ frs X.stack := fun m => (f.fly.2.2.1.mem m).elim fun _ ⟨u, eu, nu⟩ => nu vs (by rw [e] at eu; exact (Option.some.inj eu) ▸ fd)
  exact ⟨out, Option.eq_none_iff_forall_ne_some.mpr fun u q => nomatch (f.fly.2.1.symm.trans (f.ground a u q out))⟩
theorem Fell.apart (f : Fell X pins σ H B y a cls d s) (hs : X.stack = X.env :: X.outer) (hf : X.env.frame = some X.env.locals) : a ≠ X.env.locals ∧ a ∉ X.fs := by
  have n := f.notIn.1
  rw [hs] at n
  have n' : a ∉ X.env.locals :: X.fs := by
    unfold frs at n
    rw [List.filterMap_cons, hf] at n
    exact n
  exact ⟨fun z => n' (z ▸ List.mem_cons_self), fun z => n' (List.mem_cons_of_mem _ z)⟩
theorem Fell.suite {C : Addr} (f : Fell X pins σ H B y a (.ref C) d s) (hs : X.stack = X.env :: X.outer) (hf : X.env.frame = some X.env.locals) (hex : X.ex = []) : Inv (X.suite a (X.pn ++ pins)) [] σ (upd H a (exw a C d)) s := by
  obtain ⟨o, vs, e, z, fd⟩ := f.fly.there
  have gone := f.notIn.2
  refine inv_suiteT f.here e z.1 z.2 fd f.new (Option.eq_none_iff_forall_ne_some.mpr fun u q => ?_) (f.apart hs hf).1 fun p m z => ?_
  · obtain ⟨_, q'⟩ := f.inv.base.there a u q (by rw [hex]; exact List.not_mem_nil)
    exact nomatch gone.symm.trans q'
  · have q := (f.inv.pin p m).1
    rw [z] at q
    exact nomatch gone.symm.trans q
/-- the frame notes what was raised in the body -/
theorem fell_of {M : Model} {A : Around} {E₁ : Value → Shared → Prop} {W : WX} {xe : Value → Shared → Prop} {u : Value} {Q : Unit → Shared → Prop} (ok : X.Ok) (hs : X.stack = X.env :: X.outer) (hf : X.env.frame = some X.env.locals) (hfr : A.frames = some (X.env :: X.outer)) (x : XE (X.tr (X.pn ++ pins) xe) W u s)
    (hq : ∀ a σ H B y cls d h, u = .ref a → Fell X pins σ H B y a cls d { s with heap := h } → W cls d σ H → Q () { s with heap := h }) :
    wpAny M A (noteFrame u X.env) (fun _ s₂ => wpAny M A (setFlight u none) Q E₁ s₂) E₁ s := by
  obtain ⟨a, B, y, ps, σ, H, cls, d, eu, I, gr, up, sky, new, os, bare, w⟩ := x
  subst eu
  have sky1 : Sky B (X.env :: X.outer) a (Zc cls d) X.env.locals s.heap := hs ▸ sky
  exact Sky.land Zc.steady hfr hf sky1 fun h fl u => hq a σ H B y cls d h rfl ⟨I.ofTry ok, gr, hs.symm ▸ fl, up.trans u, new, os, bare⟩ w
/-- it is of none of the classes: it flies on -/
theorem Fell.on {A : Around} {Wout : WX} {Q : Flow → Shared → Prop} (f : Fell X pins σ H B y a cls d s) (hf : X.env.frame = some X.env.locals) (tk : Takes X Wout) (w : Wout cls d σ H) :
    wpAny (model X.prog X.w) A (setFlight (.ref a) X.env.frame) (fun _ s4 => wpAny (model X.prog X.w) A (throw (.ref a) : Sem Flow) Q X.xe s4) X.xe s := by
  rw [hf]
  exact HandSPX.setFlight_upZ f.fly fun h hh u => wpAny_throw (tk _ _ ⟨a, B, y, pins, σ, H, cls, d, rfl, f.inv, f.ground, f.up.trans u, .inr (.inr hh), f.new, f.os, f.bare, w⟩)
end
/-- the ends of a try's body are the ends of the try -/
theorem sp_try {D : Ends} {xe : Value → Shared → Prop} (ok : X.Ok) : ∀ {f : Flow}, SP (X.tr (X.pn ++ pins) xe) [] D f s → SP X pins D f s
  | .next, ⟨σ, H, J, q⟩ => ⟨σ, H, J.ofTry ok, q⟩
  | .brk, ⟨σ, H, J, q⟩ => ⟨σ, H, J.ofTry ok, q⟩
  | .cont, ⟨σ, H, J, q⟩ => ⟨σ, H, J.ofTry ok, q⟩
  | .ret _, ⟨v, σ, H, J, r, q⟩ => ⟨v, σ, H, J.ofTry ok, r, q⟩
/-- the ends behind the clause's name is gone -/
noncomputable abbrev goneD (i : Nat) (D : Ends) : Ends := { nx := fun σ' H' => D.nx (σ'.set i none) H', rt := D.rt, bk := fun σ' H' => D.bk (σ'.set i none) H', ct := fun σ' H' => D.ct (σ'.set i none) H' }
theorem sp_suite {M : Model} {A : Around} {E₁ : Value → Shared → Prop} {D : Ends} {a : Addr} {i : Nat} {n : Str} {pos : Pos} (ok : X.Ok) (hN : X.N.Nodup) (hi : X.N[i]? = some n) (hln : X.env.kindOf n = some .local) :
    ∀ {f : Flow}, SP (X.suite a (X.pn ++ pins)) [] (goneD i D) f s → wpAny M A (do bindName X.env n .none; unbindBehindTheSuite X.env n pos) (fun _ s7 => SP X pins D f s7) E₁ s
  | .next, ⟨_, _, S, q⟩ => gone_ok (inv_unsuiteT S ok) hN hi hln fun _ J => ⟨_, _, J, q⟩
  | .brk, ⟨_, _, S, q⟩ => gone_ok (inv_unsuiteT S ok) hN hi hln fun _ J => ⟨_, _, J, q⟩
  | .cont, ⟨_, _, S, q⟩ => gone_ok (inv_unsuiteT S ok) hN hi hln fun _ J => ⟨_, _, J, q⟩
  | .ret _, ⟨_, _, _, S, r, q⟩ => gone_ok (inv_unsuiteT S ok) hN hi hln fun _ J => ⟨_, _, _, J, r, q⟩
/-- what the clause wishes of an exception of the body -/
noncomputable def wT (K : PySem.W.Frag) (cs : List Value) (i : Nat) (ts : TS) (Wout : WX) (D : Ends) : WX := fun cls d σ H =>
  ∃ b, PySem.W.exmAny K cls cs = some b ∧ (b = true → ∃ C, cls = .ref C ∧ ∀ a, H a = none → ts (goneD i D) (σ.set i (some (.ref a))) (upd H a (exw a C d))) ∧ (b = false → Wout cls d σ H)
end
section
variable {X : Cx} {x1 x2 x3 n : Str} {C1 C2 C3 : Addr} {i : Nat} {body suite : List Stmt} {b₀ : Stmt} {p1 p2 p3 tp pos pos' : Pos} {kk : Nat} {tb : WX → TS} {ts : TS} {Wout : WX}
theorem ps_tryT (hs : X.stack = X.env :: X.outer) (hf : X.env.frame = some X.env.locals) (hex : X.ex = []) (hN : X.N.Nodup) (hi : X.N[i]? = some n) (hln : X.env.kindOf n = some .local) (tk : Takes X Wout)
    (g1 : Gl X x1) (m1 : X.mg x1 = some (.ref C1)) (g2 : Gl X x2) (m2 : X.mg x2 = some (.ref C2)) (g3 : Gl X x3) (m3 : X.mg x3 = some (.ref C3)) (d1 : (x1 == ("__debug__" : Str)) = false) (d2 : (x2 == ("__debug__" : Str)) = false) (d3 : (x3 == ("__debug__" : Str)) = false)
    (hb : ∀ (W : WX) (pn : List (Addr × Obj)) (xe : Value → Shared → Prop), Takes (X.tr pn xe) W → PSs (X.tr pn xe) body (tb W)) (hsu : ∀ (a : Addr) (pn : List (Addr × Obj)), PSs (X.suite a pn) (b₀ :: suite) ts) :
    PS X (.Try body [.ExceptHandler (some (.Tuple [.Name x1 p1, .Name x2 p2, .Name x3 p3] kk tp)) (some n) (b₀ :: suite) pos'] [] [] pos) (fun D σ H => tb (wT X.K [.ref C1, .ref C2, .ref C3] i ts Wout D) D σ H) where
  run := fun pins s σ H D I h => by
    have hfr : X.A.frames = some (X.env :: X.outer) := hs ▸ I.ok.frames
    refine wpAny_Try_except (wpAny_mono ((hb _ (X.pn ++ pins) (fun e s₁ => wpAny (model X.prog X.w) X.A (noteFrame e X.env) (fun _ s₂ => wpAny (model X.prog X.w) X.A (setFlight e none) (fun _ s₃ =>
      wpAny (model X.prog X.w) X.A (handleBy e X.env [.ExceptHandler (some (.Tuple [.Name x1 p1, .Name x2 p2, .Name x3 p3] kk tp)) (some n) (b₀ :: suite) pos']) (SP X pins D) X.xe s₃) X.xe s₂) X.xe s₁) fun u s' x => ?_).run [] s σ H D (I.toTry _) h) (fun f s1 q => ?_) fun _ _ z => z)
    · refine fell_of I.ok hs hf hfr x fun a σ' H' B y cls d h3 eu F w => ?_
      subst eu
      obtain ⟨b, hb1, yes, no⟩ := w
      obtain ⟨oe, _, he, hz, fd⟩ := F.fly.there
      have ap := F.apart hs hf
      have S3 := F.here.suite he fd F.new ap.1 ap.2
      let tO : Obj := { cls := .type "tuple", data := .seq [Value.ref C1, .ref C2, .ref C3].toArray }
      have k4 : ∀ b o, h3.get? b = some o → (h3.push tO).get? b = some o := fun b o e => Heap.get?_push_of_some _ e
      have F4 := F.move (t := s'.toks) (flyZ_kept F.fly k4) (Heap.UpToSlots.of_keeps k4)
      have ty : PySem.W.Looks (model X.prog X.w) h3 (typeOf (.ref a)) cls := fun _ _ _ _ kp q => wpAny_typeOf_ref (kp _ _ he) (hz.1.symm ▸ q)
      have found := PySem.W.exm_tup3 (M := model X.prog X.w) (h := h3.push tO) (tp := h3.objs.size) F4.here.kIn (ty.keeps k4) (Heap.get?_push_size _ rfl) hb1
      -- the test's value: a new tuple of the three classes
      have names : ∀ {Q E : Value → Shared → Prop}, Q (.ref h3.objs.size) { s' with heap := h3.push tO } → wpAny (model X.prog X.w) (X.A.mark (some (.ref a))) (eval (.Tuple [.Name x1 p1, .Name x2 p2, .Name x3 p3] kk tp) X.env) Q E { s' with heap := h3 } := fun {Q E} q => by
        refine wpAny_Tuple_spliced ?_
        show wpAny _ _ (spliced ((false, eval (.Name x1 p1) X.env) :: backTo tp (starEach [.Name x2 p2, .Name x3 p3] X.env))) _ _ _
        refine Calls.spliced_cons (ld_glob (X := X.suite a ((a, oe) :: (X.pn ++ pins))) S3 g1 m1 ?_ d1)
        show wpAny _ _ (spliced ((false, eval (.Name x2 p2) X.env) :: backTo tp (starEach [.Name x3 p3] X.env))) _ _ _
        refine Calls.spliced_cons (ld_glob (X := X.suite a ((a, oe) :: (X.pn ++ pins))) S3 g2 m2 ?_ d2)
        show wpAny _ _ (spliced ((false, eval (.Name x3 p3) X.env) :: backTo tp (starEach [] X.env))) _ _ _
        refine Calls.spliced_cons (ld_glob (X := X.suite a ((a, oe) :: (X.pn ++ pins))) S3 g3 m3 ?_ d3)
        exact Calls.spliced_nil ⟨by rw [sizeLine_eq]; simp, q⟩
      refine wpAny_handleBy_cons (codeAny_handlers_test (names (found.here ?_))) (fun z => nomatch z)
      cases b with
      | true =>
        obtain ⟨C, rfl, caught⟩ := yes rfl
        refine codeAny_handlers_suite_as (HandSPX.lands_againZ F4.fly fun h5 fl5 u5 => ?_)
        have F5 := F4.move (t := s'.toks) fl5 u5
        refine store_ok (X := X.suite a (X.pn ++ pins)) (v := .ref a) (F5.suite hs hf hex) hN hi (.inl hln) rfl (fun s6 S6 => ?_) (.inr hln)
        exact wpAny_mono ((hsu a (X.pn ++ pins)).run [] s6 _ _ (goneD i D) S6 (caught a F.new)) (fun _ _ q => sp_suite I.ok hN hi hln q) fun _ _ z => z.elim
      | false =>
        refine wpAny_handleBy_nil ?_
        obtain ⟨_, _, _, oe, vs, T, _, _, g0, _, g2', g3', _⟩ := id F4.fly
        have out := F4.on (A := X.A) (Q := SP X pins D) hf tk (no rfl)
        unfold PySem.passOn
        refine wpAny_bind (wpAny_field g0 g2' g3' ?_)
        rw [if_neg (by simp)]
        first
          | exact wpAny_bind (wpAny_pure (wpAny_bind out))
          | exact wpAny_bind out
    · have q' := sp_try I.ok q
      cases f with
      | next => exact wpAny_execs_nil q'
      | brk => exact q'
      | cont => exact q'
      | ret u => exact q'
end
end RL
end
section
set_option maxRecDepth 100000
set_option maxHeartbeats 4000000
/-! try: .. / except (A, B, C) as e: .., as a reading -/
namespace RL
open PySem PySem.Spec L2
open PyProof.Rows hiding St
variable [Lams]
/-- k: how many names; i: e's place; kx: whether the class is caught -/
noncomputable def mTryT (k : Nat) (kx : Str → Option Bool) (i : Nat) (m ms : SS) : SS := fun s S => match m s S with
  | .exc c ns ws S1 => match kx c with
    | some true => (nox (ms ((List.replicate k none).set i (some (.exn c ns ws))) S1)).bind fun p S2 => .ok (p.1, p.2.set i none) S2
    | some false => .exc c ns ws S1
    | none => .bad
  | r => r
noncomputable def KxT (K : PySem.W.Frag) (mg : Str → Option Value) (kx : Str → Option Bool) (cs : List Value) : Prop := ∀ c C b, mg c = some (.ref C) → kx c = some b → PySem.W.exmAny K (.ref C) cs = some b
section
variable {K : PySem.W.Frag} {mg : Str → Option Value} {ρ : RT} {H : Hp} {E E' : EK}
theorem REnv.gone {s : Env'} {σ : L2.St} (h : REnv K mg ρ H E s σ) (i : Nat) : REnv K mg ρ H E (s.set i none) (σ.set i none) := by
  refine ⟨h.ce, by rw [List.length_set, List.length_set]; exact h.len, fun j u hj => ?_⟩
  by_cases hij : i = j
  · subst hij
    by_cases hi : i < s.length
    · rw [List.getElem?_set_self hi] at hj; cases hj
    · rw [List.getElem?_eq_none (by rw [List.length_set]; omega)] at hj; cases hj
  · rw [List.getElem?_set_ne hij] at hj
    obtain ⟨v, h1, h2⟩ := h.look j u hj
    exact ⟨v, by rw [List.getElem?_set_ne hij]; exact h1, h2⟩
theorem REnv.toE {s : Env'} {σ : L2.St} (h : REnv K mg ρ H E s σ) (e : E'.ce = E.ce) : REnv K mg ρ H E' s σ := ⟨by rw [e]; exact h.ce, h.len, h.look⟩
end
section
variable {X : Cx} {E : EK} {x1 x2 x3 n : Str} {C1 C2 C3 : Addr} {k : Nat} {body suite : List Stmt} {b₀ : Stmt} {p1 p2 p3 tp pos pos' : Pos} {kk : Nat} {m ms : SS} {kx : Str → Option Bool}
theorem takes_blank {W : WX} (tk : Takes X W) : Takes X (fun c d _ H => W c d (List.replicate X.N.length none) H) := fun u s' ⟨a, B, sI, pins, σ, H, cls, d, e, I, nb, up, sky, na, os, ag, w⟩ =>
  tk u s' ⟨a, B, sI, pins, List.replicate X.N.length none, H, cls, d, e, I.weak (by rw [List.length_replicate]; exact I.len.symm) (fun i v h => by
    rw [List.getElem?_replicate] at h
    split at h <;> cases h), nb, up, sky, na, os, ag, w⟩
theorem psm_tryT (i : Nat) (hs : X.stack = X.env :: X.outer) (hf : X.env.frame = some X.env.locals) (hex : X.ex = []) (hN : X.N.Nodup) (tk : Takes X (fun c d _ H => E c d H)) (m1 : X.mg x1 = some (.ref C1)) (m2 : X.mg x2 = some (.ref C2)) (m3 : X.mg x3 = some (.ref C3)) (hkx : KxT X.K X.mg kx [.ref C1, .ref C2, .ref C3])
    (hb : ∀ (E' : EK) (pn : List (Addr × Obj)) (xe : Value → Shared → Prop), E'.ce = E.ce → Takes (X.tr pn xe) (fun c d _ H => E' c d H) → PSsM (X.tr pn xe) E' body m)
    (hsu : ∀ (a : Addr) (pn : List (Addr × Obj)), PSsM (X.suite a pn) ⟨EN.e, E.ce⟩ (b₀ :: suite) ms)
    (hk : X.N.length = k := by rfl) (hi : X.N[i]? = some n := by rfl) (hln : X.env.kindOf n = some .local := by rfl) (g1 : Gl X x1 := by rfl) (g2 : Gl X x2 := by rfl) (g3 : Gl X x3 := by rfl)
    (d1 : (x1 == ("__debug__" : Str)) = false := by decide +kernel) (d2 : (x2 == ("__debug__" : Str)) = false := by decide +kernel) (d3 : (x3 == ("__debug__" : Str)) = false := by decide +kernel) :
    PSM X E (.Try body [.ExceptHandler (some (.Tuple [.Name x1 p1, .Name x2 p2, .Name x3 p3] kk tp)) (some n) (b₀ :: suite) pos'] [] [] pos) (mTryT k kx i m ms) := by
  subst hk
  refine ps_imp (ps_tryT (ts := tS X ⟨EN.e, E.ce⟩ ms) (tb := fun W => tS X ⟨fun c d H => W c d (List.replicate X.N.length none) H, E.ce⟩ m) hs hf hex hN hi hln tk g1 m1 g2 m2 g3 m3 d1 d2 d3 (fun W pn xe tkW => hb ⟨fun c d H => W c d (List.replicate X.N.length none) H, E.ce⟩ pn xe rfl (takes_blank (X := X.tr pn xe) tkW)) (fun a pn => hsu a pn)) fun D σ H ⟨ρ, s, S, rep, env, o⟩ => ?_
  refine ⟨ρ, s, S, rep, env.toE rfl, ?_⟩
  unfold mTryT at o
  cases e : m s S with
  | bad => rw [e] at o; exact o.elim
  | ok p S1 =>
    obtain ⟨fl, s1⟩ := p
    rw [e] at o
    cases fl with
    | nx => exact fun ρ' H' σ' x rep' env' => o ρ' H' σ' x rep' (env'.toE rfl)
    | rt w => exact o
    | bk => exact fun ρ' H' σ' x rep' env' => o ρ' H' σ' x rep' (env'.toE rfl)
    | ct => exact fun ρ' H' σ' x rep' env' => o ρ' H' σ' x rep' (env'.toE rfl)
  | exc c ns ws S1 =>
    rw [e] at o
    dsimp only at o
    intro ρ' H' C d vs ex rep' hC hd hl rs
    cases ek : kx c with
    | none => rw [ek] at o; exact o.elim
    | some b =>
      rw [ek] at o
      refine ⟨b, hkx c C b hC ek, fun hb => ⟨C, rfl, fun a na => ?_⟩, fun hb => ?_⟩
      · subst hb
        dsimp only at o
        obtain ⟨e1, rep1⟩ := rep'.tree na (exw a C (some d))
        refine ⟨ρ', (List.replicate X.N.length none).set i (some (.exn c ns ws)), S1, rep1, ⟨fun y c q => ?_, by simp, fun j u hj => ?_⟩, ?_⟩
        · rw [ex.ce]; exact env.ce y c q
        · by_cases hij : i = j
          · subst hij
            by_cases hi' : i < (List.replicate X.N.length (none : Option W)).length
            · rw [List.getElem?_set_self hi'] at hj
              cases hj
              rw [List.length_replicate] at hi'
              exact ⟨.ref a, by rw [List.getElem?_set_self (by rw [List.length_replicate]; exact hi')], .exn hC (fx_new rep' na _) (hd.ext e1) hl (rs.ext e1)⟩
            · rw [List.getElem?_eq_none (by rw [List.length_set]; omega)] at hj; cases hj
          · rw [List.getElem?_set_ne hij, List.getElem?_replicate] at hj
            split at hj <;> cases hj
        · cases er : ms ((List.replicate X.N.length none).set i (some (.exn c ns ws))) S1 with
          | bad => rw [er] at o; exact o.elim
          | exc c2 ns2 ws2 S2 => rw [er] at o; exact o.elim
          | ok p S2 =>
            obtain ⟨fl, s2⟩ := p
            rw [er] at o
            have o := OutS.ext (ex.trans e1) o
            cases fl with
            | nx => exact fun ρ2 H2 σ2 x2 rep2 env2 => o ρ2 H2 _ x2 rep2 (REnv.toE (E := ⟨EN.e, E.ce⟩) (E' := E) (env2.gone i) rfl)
            | rt w => exact o
            | bk => exact fun ρ2 H2 σ2 x2 rep2 env2 => o ρ2 H2 _ x2 rep2 (REnv.toE (E := ⟨EN.e, E.ce⟩) (E' := E) (env2.gone i) rfl)
            | ct => exact fun ρ2 H2 σ2 x2 rep2 env2 => o ρ2 H2 _ x2 rep2 (REnv.toE (E := ⟨EN.e, E.ce⟩) (E' := E) (env2.gone i) rfl)
      · subst hb
        exact o ρ' H' C d vs ex rep' hC hd hl rs
end
/-! ### defs called in an except suite -/
open L2H in
/-- what such a def promises: it raises nothing -/
noncomputable def FnC (P : Program) (w : World) (K : PySem.W.Frag) (mg : Str → Option Value) (base : Heap) (k : Nat) (f : Addr) (fd : FuncData) (ps : List Str) (n : Nat) (g : Fn) : Prop :=
  ∀ (A : Around) (outer : List Env) (s : Shared) (H : Hp) (args : Args) (us : List Value) (vs : List V) (Q : VK), RoomH k A → Env0 P w K mg base A outer s H → BindsTo s fd args (ps.zip us) → Vals vs us → vs.length = ps.length → spM K mg n g vs H Q EN →
    codeAny (model P w) A (.call (.ref f) args) (CR (L2.CX P w) outer P w H s Q EN) s
noncomputable def FnCE (P : Program) (w : World) (K : PySem.W.Frag) (mg : Str → Option Value) (base : Heap) (k : Nat) (x : Str) (st : Stmt) (ps : List Str) (g : Fn) : Prop :=
  ∃ f fd, mg x = some (.ref f) ∧ Fun K x x st f fd ∧ Binds K fd ps [] ∧ FnC P w K mg base k f fd ps ps.length g
section
open L2H
variable {P : Program} {w : World} {K : PySem.W.Frag} {mg : Str → Option Value} {base : Heap}
theorem fn_c {x qual : Str} {st : Stmt} {f : Addr} {fd : FuncData} {N ps : List Str} {k : Nat} {m : SS} (F : Fun K x qual st f fd) (Sc : FnScope N ps (defScope st))
    (hb : ∀ (cdv : Value) (A : Around) (outer : List Env) (s : Shared) (H : Hp) (p : Addr × Obj), RoomH k (A.deeper (envOfC qual (defScope st) s.heap.objs.size f cdv)) → PSsM (cxH (L2.CX P w) P w K mg base N qual (defScope st) f cdv A outer s H EN.e p) EN (defBody st) m) :
    FnC P w K mg base (k + 1) f fd ps ps.length (runB N.length m) := by
  obtain ⟨oc, od, kV, doc, pm, an, cdv, ct, osl, rfl, lk, hcd⟩ := F.ex
  intro A outer s H args us vs Q hr e0 hbd r hl hsp
  have KX : K.In s.heap := e0.mod.kin.keeps fun b o e => (e0.bs b o e).1
  have lim : s.heap.NoLimit := e0.mod.nolimit.keeps fun b o e => (e0.bs b o e).1
  -- some object of the ground
  obtain ⟨p, hpin⟩ : ∃ p, PinOk outer H s p := by
    obtain ⟨o, es, ep, e, hd, _⟩ := e0.mod.glob
    refine ⟨(mainGlobals, o), (e0.bs _ _ e).1, (e0.bs _ _ e).2, fun hm => ?_, fun v z => ?_⟩
    · have := (e0.funs.mem hm).1
      rw [e] at this; cases this
    · have z : o.data = .cell v := z
      rw [hd] at z; cases z
  have hkind : ∀ y ∈ ps.zip us, (defScope st).names.lookup y.1 = some .local ∨ ((defScope st).names.lookup y.1 = some .cell ∧ ((cellsFrom (s.heap.objs.size + 1) (defScope st).names []).lookup y.1).isSome = true) := fun ⟨n, v⟩ hy => by
    rcases Sc.par n (List.of_mem_zip hy).1 with q | q
    · exact .inl q
    · exact .inr ⟨q, PySem.W.cellsFrom_some _ _ _ (.inl q)⟩
  refine codeAny_call_function hr.depth (KX _ _ lk) rfl Sc.co Sc.gen rfl (PySem.W.codeRec_of KX hcd) (hbd _ _ _ _ ?_)
  refine wpAny_newFunctionEnv_cells Sc.kind hkind fun env he s1 x => ?_
  subst he
  refine ⟨lim.keeps x.toInCall.keep, codeAny_func ?_⟩
  have I : Inv (cxH (L2.CX P w) P w K mg base N qual (defScope st) f cdv A outer s H EN.e p) [] (L2.start N vs) H s1 := inv_startH Sc hpin e0 hl r x
  obtain ⟨ρ, S, ws, rep, rs, hn, o⟩ := hsp
  refine wpAny_mono ((hb cdv A outer s H p (hr.deeper _)).run [] s1 (L2.start N vs) H { nx := fun _ H' => Q .non H', rt := Q } I ⟨ρ, startW N.length ws, S, rep, env_start rs (fun _ _ q => nomatch q), ?_⟩) (fun fl s' hs => ?_) fun e s' hs => hs
  · unfold runB at o
    cases e : m (startW N.length ws) S with
    | ok p S1 =>
      obtain ⟨fl, s1⟩ := p
      rw [e] at o
      cases fl with
      | nx => exact fun ρ' H' σ' x rep' env' => o ρ' H' .non x rep' .non
      | rt u => exact o
      | bk => exact o.elim
      | ct => exact o.elim
    | exc c ns ws' S1 => rw [e] at o; exact o
    | bad => rw [e] at o; exact o
  · have fin : ∀ {σ' : L2.St} {H' : Hp} {v : V} {u : Value}, Inv (cxH (L2.CX P w) P w K mg base N qual (defScope st) f cdv A outer s H EN.e p) [] σ' H' s' → RelV v u → Q v H' → CE outer P w H s Q u s' :=
      fun {σ' H' v u} J rv q => ⟨v, H', J.os, J.bare, J.base, J.hok, rv, q⟩
    cases fl with
    | ret u =>
      obtain ⟨v, σ', H', J, rv, q⟩ := hs
      exact fin J rv q
    | next =>
      obtain ⟨σ', H', J, q⟩ := hs
      exact fin (v := V.non) (u := Value.none) J rfl q
    | brk =>
      obtain ⟨_, _, _, q⟩ := hs
      exact False.elim q
    | cont =>
      obtain ⟨_, _, _, q⟩ := hs
      exact False.elim q
theorem fn_cE {x : Str} {st : Stmt} {N ps : List Str} {k : Nat} {m : SS} (T : FTx K mg x st ps) (Sc : FnScope N ps (defScope st))
    (hb : ∀ (f : Addr) (cdv : Value) (A : Around) (outer : List Env) (s : Shared) (H : Hp) (p : Addr × Obj), RoomH k (A.deeper (envOfC x (defScope st) s.heap.objs.size f cdv)) → PSsM (cxH (L2.CX P w) P w K mg base N x (defScope st) f cdv A outer s H EN.e p) EN (defBody st) m) :
    FnCE P w K mg base (k + 1) x st ps (runB N.length m) := by
  obtain ⟨f, fd, F, hm, hb'⟩ := T
  exact ⟨f, fd, hm, F, hb', fn_c F Sc (hb f)⟩
variable {X : Cx} {E : EK} {pos : Pos} {a : Expr} {es : List Expr} {mr : SM (List W)} {k k' n : Nat} {g : Fn} {x : Str} {p : Pos} {st : Stmt} {ps : List Str}
theorem pm_callX [hl : Len mr n] (F : FnCE X.prog X.w X.K X.mg X.base k x st ps g) (hr : RoomH k' X.A) (hk : k ≤ k') (ha : PAM X E (a :: es) mr) (hn : n = ps.length := by rfl)
    (hg : Gl X x := by rfl) (hdb : (x == ("__debug__" : Str)) = false := by decide +kernel) (he : starEach (a :: es) X.env = (false, eval a X.env) :: starEach es X.env := by rfl) (hpl : (backTo pos (starEach es X.env)).any (·.1) = false := by rfl) : PM X E (.Call (.Name x p) (a :: es) [] pos) (mAp (fun ws S => nox (g ws S)) mr) := by
  obtain ⟨f, fd, h1, h2, h3, h4⟩ := F
  subst hn
  refine ⟨fun pins s σ H Q I h => ?_⟩
  obtain ⟨ρ, sW, S, rep, env, o⟩ := h
  refine wpAny_Call_Name_kw (ld_glob I hg h1 ?_ hdb)
  have hq : tA X E mr σ H (fun vs H1 => ∃ ρ1 ws S1, RepS X.K X.mg ρ1 H1 S1 ∧ RWs X.K X.mg ρ1 H1 ws vs ∧ ws.length = ps.length ∧ Out X.K X.mg (RW X.K X.mg) E ρ1 H1 (nox (g ws S1)) Q) := by
    refine ⟨ρ, sW, S, rep, env, ?_⟩
    unfold mAp at o
    cases e : mr sW S with
    | ok ws S1 =>
      rw [e] at o
      exact fun ρ1 H1 vs x rep1 r => ⟨ρ1, ws, S1, rep1, r, hl.len _ _ _ _ e, Out.ext x o⟩
    | exc c ns ws S1 => rw [e] at o; exact o
    | bad => rw [e] at o; exact o
  refine PySem.W.callWith_K (h₀ := X.base) I.ok.mod.kin h2.kp (thn (ha.run pos pins s σ H _ I hq) fun us s1 ⟨vs, H1, I1, r, ρ1, ws, S1, rep1, rs, hlen, o1⟩ => ⟨I1.kIn, ?_⟩) he hpl
  have hb := h3 s1 us I1.kIn (by rw [List.append_nil, ← r.length, ← hlen]; exact rs.length.symm)
  rw [List.append_nil] at hb
  have hsp : spM X.K X.mg ps.length g vs H1 Q EN := ⟨ρ1, S1, ws, rep1, rs, hlen, by
    cases e : g ws S1 with
    | ok w S2 => rw [e] at o1; exact o1
    | exc c ns us S2 => rw [e] at o1; exact o1.elim
    | bad => rw [e] at o1; exact o1.elim⟩
  refine wpAny_call (codeAny_mono (h4 X.A X.stack s1 H1 ⟨us, []⟩ us vs Q ⟨by have := hr.dp; omega, by have := hr.un; omega⟩ I1.env0 hb r (by rw [← rs.length]; exact hlen) hsp) fun rr s2 hq => ?_)
  cases rr with
  | error e =>
    obtain ⟨_, _, _, _, _, _, _, _, _, _, _, _, z⟩ := (show L2.CX X.prog X.w X.stack H1 s1 (fun _ _ _ => False) e s2 from hq)
    exact z.elim
  | ok fl =>
    cases fl with
    | ret u => exact I1.after hq
    | next => exact False.elim hq
    | brk => exact False.elim hq
    | cont => exact False.elim hq
end
end RL
end
section
set_option maxRecDepth 100000
set_option maxHeartbeats 4000000
namespace RL
open PySem PySem.Spec L2
open PyProof.Rows hiding St
section
variable {s : Env'} {S : Store} {w w1 w2 : W} {ws us : List W} {ma mb mo md mk mv mx mi : SM W} {mr : SM (List W)} {c f m : Str} {g : Fn} {ns : List Str}
noncomputable def methK (c m : Str) (g : Fn) (mr : SM (List W)) (s : Env') (w : W) (S1 : Store) : Res W := match insAt S1 w with
  | some (c', ns, _) => if c' = c ∧ ns.contains m = false then (mr s S1).bind fun ws S2 => g (w :: ws) S2 else .bad
  | none => .bad
@[simp] theorem mMeth_eq : mMeth c m g mo mr s S = (mo s S).bind (methK c m g mr s) := rfl
@[simp] theorem methK_ins {c' : Str} : methK c m g mr s (.ins c' ns ws) S = if c' = c ∧ ns.contains m = false then (mr s S).bind fun us S2 => g (.ins c' ns ws :: us) S2 else .bad := rfl
@[simp] theorem gFld_ins {c' : Str} : gFld c f (.ins c' ns ws) S = if c' = c then (match (ns.zip ws).lookup f with
    | some v => .ok v S
    | none => .bad) else .bad := rfl
@[simp] theorem gMake_eq : gMake c ns ws S = if ws.length = ns.length then .ok (.ins c ns ws) S else .bad := rfl
@[simp] theorem gStar_eq {np : Nat} : gStar np g ws S = if np ≤ ws.length ∧ ws.length ≤ lim then g (ws.take np ++ [.tup (ws.drop np)]) S else .bad := rfl
@[simp] theorem isIns_ins {c' : Str} : isIns c (.ins c' ns ws) = (c' == c) := rfl
@[simp] theorem isIns_str {x : Str} : isIns c (.str x) = false := rfl
@[simp] theorem isIns_int {x : Int} : isIns c (.int x) = false := rfl
@[simp] theorem isStr_ins {c' : Str} : isStr (.ins c' ns ws) = false := rfl
@[simp] theorem isStr_str {x : Str} : isStr (.str x) = true := rfl
@[simp] theorem mFmt_eq : mFmt ma s S = (ma s S).bind fun w S1 => match w with
  | .str y => if y.length ≤ lim then .ok (.str y) S1 else .bad
  | _ => .bad := rfl
@[simp] theorem mJs_nil {acc : Str} : mJs [] acc s S = .ok (.str acc) S := rfl
@[simp] theorem mJs_cons {ms : List (SM W)} {acc : Str} : mJs (ma :: ms) acc s S = (ma s S).bind fun w S1 => match w with
    | .str y => if (acc ++ y).length ≤ lim then mJs ms (acc ++ y) s S1 else .bad
    | _ => .bad := rfl
@[simp] theorem mJoined_eq {ms : List (SM W)} : mJoined ms s S = mJs ms (tx []) s S := rfl
@[simp] theorem mStar_eq : mStar ma mr s S = (ma s S).bind fun w S1 => match seqA S1 w with
  | some ws => (mr s S1).bind fun us S2 => .ok (ws ++ us) S2
  | none => .bad := rfl
@[simp] theorem mNever_eq : mNever s S = .bad := rfl
@[simp] theorem seqA_lst : seqA S (.lst ws) = some ws := rfl
@[simp] theorem seqA_tup : seqA S (.tup ws) = some ws := rfl
noncomputable def cdK (tab : List (Str × Str)) (k : W) (S1 : Store) : Res W := match k with
  | .str z => match tab.lookup z with
    | some v => .ok (.str v) S1
    | none => .bad
  | _ => .bad
@[simp] theorem mCDict_eq {tab : List (Str × Str)} : mCDict tab mi s S = (mi s S).bind (cdK tab) := rfl
@[simp] theorem cdK_str {tab : List (Str × Str)} {z : Str} : cdK tab (.str z) S = match tab.lookup z with
    | some v => .ok (.str v) S
    | none => .bad := rfl
@[simp] theorem mDNewR_eq : mDNewR s S = .ok (.ref S.length) (S ++ [dicO []]) := rfl
@[simp] theorem mDisp_eq {mp : SM (List (W × W))} : mDisp mp s S = (mp s S).bind gDisp := rfl
@[simp] theorem mPNil_eq : mPNil s S = .ok [] S := rfl
@[simp] theorem mPCons_eq {mp : SM (List (W × W))} : mPCons mk mv mp s S = (mk s S).bind fun k S1 => (mv s S1).bind fun v S2 => (mp s S2).bind fun r S3 => .ok ((k, v) :: r) S3 := rfl
@[simp] theorem mDPut_eq : mDPut md mk mv s S = (mv s S).bind fun v S1 => (md s S1).bind fun d S2 => (mk s S2).bind fun k S3 => (gDPut d k v S3).bind fun _ S4 => .ok (.nx, s) S4 := rfl
noncomputable def metDK (g : W → List W → Store → Res W) (mr : SM (List W)) (s : Env') (o : W) (S1 : Store) : Res W := match dicAt S1 o with
  | some _ => (mr s S1).bind fun ws S2 => g o ws S2
  | none => .bad
@[simp] theorem gMetD_eq {g : W → List W → Store → Res W} : gMetD g mo mr s S = (mo s S).bind (metDK g mr s) := rfl
theorem dicO_at {kws : KW} {l : Nat} (h : S[l]? = some (dicO kws)) : dicL S l = some kws := by
  unfold dicL dicO at *
  rw [h]
  simp only [List.length_map, if_true, zip_unzip]
theorem dicAt_ref {l : Nat} : dicAt S (.ref l) = dicL S l := rfl
@[simp] theorem dicAt_T {kws : KW} : dicAt S (dicT kws) = some kws := by
  unfold dicT
  simp only [dicAt, List.length_map, if_true, zip_unzip]
@[simp] theorem keyW_str {x : Str} : keyW (.str x) = some (.inr x) := rfl
end
end RL
end
section
set_option maxRecDepth 100000
set_option maxHeartbeats 4000000
/-! makers of the text facts of own exceptions -/
namespace RL
open PySem PySem.Spec L2 OrdX
open PyProof.Rows hiding St
variable [Lams]
/-- what the def of an __init__ says by itself -/
structure StX (st : Stmt) (slf : Str) (ps : List Str) (l : List (Str × (Str ⊕ Str))) : Prop where
  body : ∃ x j p0 p1 p2 p3 p4 p5 rest, defBody st = .Expr (.Call (.Attribute (.Call (.Name "super" p0) [] [] p1) "__init__" p2) [.Constant (.str x) j p3] [] p4) p5 :: rest ∧ REX.Asn slf rest l ∧
    ∀ env : Env, ∃ pl : Sem Bool, eval (.Call (.Attribute (.Call (.Name "super" p0) [] [] p1) "__init__" p2) [.Constant (.str x) j p3] [] p4) env = (do
      let ov ← attributeBase (.Call (.Name "super" p0) [] [] p1) "__init__" env (eval (.Call (.Name "super" p0) [] [] p1) env)
      standAt p2.atName
      let (f, first) ← holding [ov] (getMethod ov "__init__" pl)
      callWith p4 f first (backTo p4 (starEach [.Constant (.str x) j p3] env)) [])
  par : ∃ ar, ((defArgs st).posonlyargs ++ (defArgs st).args).head? = some ar ∧ ar.arg = slf
  nd : (slf :: ps).Nodup
  kind : (defScope st).kind = .function
  co : (defScope st).isCoroutine = false
  gen : (defScope st).isGenerator = false
  nocell : ∀ y ∈ (defScope st).names, y.2 ≠ .cell
  loc : ∀ y ∈ slf :: ps, (defScope st).names.lookup y = some .local ∧ (y == ("__debug__" : Str)) = false
  sup2 : (defScope st).names.lookup ("super" : Str) = some .globalImplicit
  cls2 : (defScope st).names.lookup ("__class__" : Str) = some .free
  few : l.length ≤ 900
  psFew : (slf :: ps).length ≤ 900
  bd : ∀ (q : Str) (kV doc pm : Value) (an : Option Addr) (cd ct : Value) (cc : Addr) (us : List Value), us.length = (slf :: ps).length → bindArgs (PySem.W.ksFn "__init__" q (defArgs st) (defBody st) (defScope st) .none kV doc pm an cd ct cc) ⟨us, []⟩ = pure ((slf :: ps).zip us)
  ne : l ≠ []
  hpar : ∀ z ∈ l, ∀ y, z.2 = .inr y → y ∈ ps
theorem hpar_of {l : List (Str × (Str ⊕ Str))} {ps : List Str} (h : (l.all fun z => match z.2 with | .inr y => ps.contains y | .inl _ => true) = true) : ∀ z ∈ l, ∀ y, z.2 = .inr y → y ∈ ps := by
  intro z m y e
  have := List.all_eq_true.mp h z m
  rw [e] at this
  exact List.contains_iff_mem.mp this
/-- a built-in base -/
structure BasX (B newId initId : String) (bmB : List Value) : Prop where
  kf : PySem.W.KxsFacts B initId
  fb : ExcBaseFacts B newId initId bmB
  sf : StoreFacts B bmB "object.__setattr__" "object"
section
variable {K : PySem.W.Frag} {mg : Str → Option Value} {h : Heap} {c q fl slf : Str} {C f cda cc : Addr} {B newId initId : String} {bmB : List Value} {st : Stmt} {ps : List Str} {l : List (Str × (Str ⊕ Str))} {oc ccl cl kV dc pm ct : Value} {od an cdd cld : Option Addr} {osl ccs csl : Array (Option Value)} {vs : Array Value} {tf : Tok}
theorem xtx_mk (bx : BasX B newId initId bmB) (sx : StX st slf ps l) (X : K.In h) (G : h.Ns mainGlobals mg) (a : PySem.W.nsIn K mainGlobals c = some (some (.ref C))) (iC : PySem.W.findIn K (.ref C) "__init__" = some (some (.ref f))) (tI : PySem.W.typeIn K (.ref f) = some (.type "function")) (kC : PySem.W.keepIn K (.ref C) = true)
    (over : PySem.W.excOver K C bmB = true) (ini : PySem.W.excInitIn K C bmB newId = true) (sup : PySem.W.ks_superIn K C C "__init__" = some (some (.builtin initId))) (dict : PySem.W.hasDictIn K C = true)
    (sa : PySem.W.findIn K (.ref C) "__setattr__" = some (some (.builtin "object.__setattr__"))) (sub : PySem.W.subIn K (.ref C) (.type B) = some true) (any : PySem.W.nsIn K cStatics "thirdparty.any" = some none) (own : PySem.W.mroIn K C (.ref C) = some true)
    (lk : K.lookup f = some ⟨oc, od, .func (PySem.W.ksFn "__init__" q (defArgs st) (defBody st) (defScope st) .none kV dc pm an (.ref cda) ct cc), osl⟩) (cod : PySem.W.codeIn K (.ref cda) q = true) (fl1 : K.lookup cda = some ⟨ccl, cdd, .fields vs, ccs⟩) (fl2 : vs[2]? = some (.str fl tf))
    (cell : K.lookup cc = some ⟨cl, cld, .cell (some (.ref C)), csl⟩) (tk : ∀ z ∈ l, PySem.W.takerIn K C z.1 = some none) : XTx K mg c st slf ps l fl := by
  obtain ⟨cd, hcd, hdd⟩ := PySem.W.any_some dict
  refine ⟨C, f, cda, cc, B, newId, initId, bmB, q, PySem.W.mg_of X G a, iC, tI, kC, ⟨⟨over, sa, cd, hcd, hdd⟩, ini, sup, sub, any, own, ⟨oc, od, kV, dc, pm, an, ct, osl, lk⟩, sx.bd q, cod, ⟨ccl, cdd, vs, ccs, tf, fl1, fl2⟩, ⟨cl, cld, csl, cell⟩, sx.body, sx.par, ⟨ps, rfl⟩, sx.nd, sx.kind, sx.co, sx.gen, sx.nocell, sx.loc, sx.sup2, sx.cls2, fun z m => ⟨tk z m, fun y e => List.mem_cons_of_mem _ (sx.hpar z m y e)⟩, sx.few, sx.psFew⟩, bx.kf, bx.fb, bx.sf, sx.ne, sx.hpar⟩
end
theorem bas_VE : BasX "ValueError" "ValueError.__new__" "ValueError.__init__" [.type "ValueError", .type "Exception", .type "BaseException", .type "object"] := ⟨PySem.W.kxs_ValueError, F.excBase_ValueError, F.store_ValueError⟩
/-- an exception's class by its name -/
noncomputable def XcT (K : PySem.W.Frag) (mg : Str → Option Value) (c : Str) : Prop := ∃ C, mg c = some (.ref C) ∧ XiC K C
section
variable {K : PySem.W.Frag} {mg : Str → Option Value} {h : Heap} {c d f : Str} {C D : Addr} {cs : List Str} {b : Bool} {n : String} {tg : List (Str × Str × Bool)} {tt : List (Str × String × Bool)}
theorem xct_mk (X : K.In h) (G : h.Ns mainGlobals mg) (a : PySem.W.nsIn K mainGlobals c = some (some (.ref C))) (ga : PySem.W.findIn K (.ref C) "__getattribute__" = some (some (.builtin "BaseException.__getattribute__"))) (gg : PySem.W.findIn K (.ref C) "__getattr__" = some none)
    (ex : PySem.W.subIn K (.ref C) (.type "BaseException") = some true) (hd : PySem.W.hasDictIn K C = true) (cl : PySem.W.isClsIn K C = true) (k1 : PySem.W.findIn K (.ref C) "__class__" = some (some (.builtin "object.__class__")))
    (k2 : PySem.W.specialIn K (.builtin "object.__class__") "__get__" = some (some (.builtin "getset_descriptor.__get__"))) (k3 : PySem.W.takesIn K (.builtin "object.__class__") = some true) (k4 : PySem.W.mroIn K C (.type "object") = some true) : XcT K mg c :=
  ⟨C, PySem.W.mg_of X G a, ⟨ga, gg, ex, hd⟩, cl, k1, k2, k3, k4⟩
theorem XcT.at (T : XcT K mg c) (h : mg c = some (.ref C)) : XiC K C := by
  obtain ⟨D, h1, h2⟩ := T
  rw [h] at h1; cases h1
  exact h2
theorem xft_nil : XfT K mg [] f := fun c m => by cases m
theorem xft_cons (X : K.In h) (G : h.Ns mainGlobals mg) (T : XcT K mg c) (a : PySem.W.nsIn K mainGlobals c = some (some (.ref C))) (n : PySem.W.findIn K (.ref C) f = some none) (t : XfT K mg cs f) : XfT K mg (c :: cs) f := fun e m D hD => by
  rcases List.mem_cons.mp m with rfl | m
  · rw [PySem.W.mg_of X G a] at hD; cases hD
    exact ⟨(T.at (PySem.W.mg_of X G a)).xf, n⟩
  · exact t e m D hD
end
end RL
end
section
set_option maxRecDepth 100000
set_option maxHeartbeats 2000000
/-! the law's end, with tables of code objects -/
namespace RL
open PySem PySem.Spec L2
open PyProof.Rows hiding St
variable [Lams]
/-- a tracked list is read as one that never changes -/
theorem frz_ok {P : Program} {w : World} {H : Hp} {h : Heap} {a : Addr} {xs : List V} {o : Obj} (hok : HOk P w H h) (ha : H a = some (.lst xs)) (e : h.get? a = some o) : HOk P w (upd H a (.frz o (.lst xs))) h := fun b u q => by
  by_cases hb : b = a
  · subst hb; rw [upd_same] at q; cases q
    exact ⟨e, hok b _ ha⟩
  · rw [upd_ne hb] at q
    have keep : ∀ c v, H c = some v → (∀ ys, v ≠ .lst ys) → upd H a (.frz o (.lst xs)) c = some v := fun c v z n => by
      rw [upd_ne fun y => n xs (by rw [y, ha] at z; exact (Option.some.inj z).symm)]; exact z
    exact (hok b u q).stay (fun _ _ _ z => z) (fun c z => keep c _ z fun _ y => nomatch y) fun c ys z => keep c _ z fun _ y => nomatch y
theorem frz_un {fs : List Addr} {H H' : Hp} {h h' : Heap} {a : Addr} {xs : List V} {o : Obj} (ha : H a = some (.lst xs)) (u : Un fs [] (upd H a (.frz o (.lst xs))) H' h h') : Un fs [] H H' h h' := by
  have ne : ∀ b v, H b = v → v ≠ some (.lst xs) → upd H a (.frz o (.lst xs)) b = v := fun b v e n => by
    rw [upd_ne fun z => n (by rw [← e, z, ha])]; exact e
  exact ⟨fun b p e n => u.keep b p e (ne b _ n (by simp)), fun b p e n => u.slot b p e (ne b _ n (by simp)), fun b p e n => u.free b p e (ne b _ n (by simp)), u.there, fun b ys e => u.tups b ys (ne b _ e (by simp)), fun b p v e => u.frzs b p v (ne b _ e (by simp)), fun b ps e => u.tbls b ps (ne b _ e (by simp))⟩
theorem frz_ub {fs : List Addr} {H H' : Hp} {h B h' : Heap} {a : Addr} {xs : List V} {o : Obj} (ha : H a = some (.lst xs)) (u : UB fs (upd H a (.frz o (.lst xs))) H' h B h') : UB fs H H' h B h' := by
  have ne : ∀ b v, H b = v → v ≠ some (.lst xs) → upd H a (.frz o (.lst xs)) b = v := fun b v e n => by
    rw [upd_ne fun z => n (by rw [← e, z, ha])]; exact e
  exact ⟨fun b p e n => u.keep b p e (ne b _ n (by simp)), u.slot, fun b p e n => u.free b p e (ne b _ n (by simp)), u.there, fun b ys e => u.tups b ys (ne b _ e (by simp)), fun b p v e => u.frzs b p v (ne b _ e (by simp)), fun b ps e => u.tbls b ps (ne b _ e (by simp))⟩
/-- .. for a def of one argument -/
noncomputable def spF (sp : Sp) : Sp := fun vs H Q E => sp vs H Q E ∨ ∃ a xs, vs = [.ref a] ∧ H a = some (.lst xs) ∧ ∀ o, sp [.ref a] (upd H a (.frz o (.lst xs))) Q E
theorem fn_frz {P : Program} {w : World} {K : PySem.W.Frag} {mg : Str → Option Value} {base : Heap} {k : Nat} {f : Addr} {fd : FuncData} {ps : List Str} {sp : Sp} (F : FnOk P w K mg base (L2.CX P w) k f fd ps sp) : FnOk P w K mg base (L2.CX P w) k f fd ps (spF sp) where
  len := fun vs H Q E h => by
    rcases h with h | ⟨a, xs, rfl, ha, h⟩
    · exact F.len _ _ _ _ h
    · exact F.len _ _ _ _ (h default)
  run := fun A outer s H args us vs Q E hr e0 hb r h => by
    rcases h with h | ⟨a, xs, rfl, ha, h⟩
    · exact F.run A outer s H args us vs Q E hr e0 hb r h
    · obtain ⟨_, its, n, _, e⟩ := (show ObjOk P w H s.heap a (.lst xs) from e0.hok a _ ha)
      have free : ∀ b, H b = none → ∀ o, upd H a (.frz o (.lst xs)) b = none := fun b n o => by rw [upd_ne fun z => by rw [z, ha] at n; cases n]; exact n
      have e1 : Env0 P w K mg base A outer s (upd H a (.frz _ (.lst xs))) := ⟨e0.frames, e0.mod, fun b o q => ⟨(e0.bs b o q).1, free b (e0.bs b o q).2 _⟩, e0.bsz, e0.funs, fun b q => free b (e0.frf b q) _, frz_ok e0.hok ha e, e0.bare⟩
      refine codeAny_mono (F.run A outer s _ args us [.ref a] Q E hr e1 hb r (h _)) fun rr s' hq => ?_
      cases rr with
      | error u =>
        obtain ⟨b, B, H', cls, d, h1, h2, h3, h4, h5⟩ := hq
        exact ⟨b, B, H', cls, d, h1, h2, h3, frz_ub ha h4, h5⟩
      | ok fl =>
        cases fl with
        | ret u =>
          obtain ⟨v, H', h1, h2, h3, h4⟩ := hq
          exact ⟨v, H', h1, h2, frz_un ha h3, h4⟩
        | next => exact hq
        | brk => exact hq
        | cont => exact hq
/-- the makers of lambdas: their names, code objects, tables -/
noncomputable def TabL (K : PySem.W.Frag) (mg : Str → Option Value) (h : Heap) (ts : List (Str × Addr × Addr)) : Prop := (ts.map (·.2.2)).Nodup ∧ ∀ t ∈ ts,
  (∃ f oc od fd osl, mg t.1 = some (.ref f) ∧ K.lookup f = some ⟨oc, od, .func fd, osl⟩ ∧ fd.code = .ref t.2.1) ∧ PySem.W.codeHdIn K t.2.1 t.2.2 = true ∧ h.get? t.2.2 = some (PySem.W.tabObj #[]) ∧ K.lookup t.2.2 = none
theorem tab_at {K : PySem.W.Frag} {mg : Str → Option Value} {h : Heap} {x : Str} {c P : Addr} (X : K.In h) (G : h.Ns mainGlobals mg) (e : PySem.W.tabIn K x = some (c, P)) : ∃ f oc od fd osl, mg x = some (.ref f) ∧ K.lookup f = some ⟨oc, od, .func fd, osl⟩ ∧ fd.code = .ref c := by
  unfold PySem.W.tabIn at e
  split at e
  · rename_i f hf
    split at e
    · rename_i oc od fd osl hfo
      split at e
      · rename_i c2 hc
        split at e
        · split at e
          · cases e
            exact ⟨f, oc, od, fd, osl, PySem.W.mg_of X G hf, hfo, hc⟩
          · cases e
        · cases e
      · cases e
    · cases e
  · cases e
theorem hd_one {h : Heap} {c P P' : Addr} (a : PySem.W.CodeHd h c P) (b : PySem.W.CodeHd h c P') : P = P' := by
  obtain ⟨o, vs, _, _, _, _, _, _, _, e1, _, e3, e4, _⟩ := a
  obtain ⟨o', vs', _, _, _, _, _, _, _, f1, _, f3, f4, _⟩ := b
  rw [e1] at f1; cases f1
  rw [e3] at f3; cases f3
  rw [e4] at f4; cases f4; rfl
theorem rep_tabs {K : PySem.W.Frag} {mg : Str → Option Value} {h : Heap} {H : Hp} {ts : List (Str × Addr × Addr)} (T : TabL K mg h ts) (hH : ∀ t ∈ ts, H t.2.2 = some (.tbl #[])) : RepS K mg ⟨ts.map (·.2.2), [], fun _ => none⟩ H (ts.map fun t => Ob.tab t.1) := by
  refine ⟨by simp, T.1, fun l o hl => ?_, (fun a m => nomatch m), (fun a m => nomatch m)⟩
  rw [List.getElem?_map] at hl
  cases e : ts[l]? with
  | none => rw [e] at hl; cases hl
  | some t =>
    rw [e] at hl
    cases (Option.some.inj hl : Ob.tab t.1 = o)
    have m := List.mem_of_getElem? e
    obtain ⟨⟨f, oc, od, fd, osl, h1, h2, h3⟩, h4, _⟩ := T.2 t m
    exact ⟨t.2.2, by show (ts.map (·.2.2))[l]? = _; rw [List.getElem?_map, e]; rfl, .tab (ps := #[]) ⟨f, t.2.1, oc, od, fd, osl, h1, h2, h3, fun base KB => PySem.W.codeHd_of_K KB h4⟩ (hH t m) True.intro fun pos cv z => by simp [codeAmong] at z⟩
theorem walk_lawT {l : PySem.W.OpenLaw} {k : Nat} {q : Program} {loose : List Str} {XP : (Str → Option Value) → Heap → Prop} {YP : World → Heap → Prop} {d : DefRec} {K : Params → PySem.W.Frag} {x : Str} {st : Stmt} {g : Fn} (ts : List (Str × Addr × Addr))
    (hg : ∀ ns : List Int, ns.length ≤ 63 → ∃ S, g [.flst (ns.map W.int)] (ts.map fun t => Ob.tab t.1) = .ok (.bl true) S)
    (hbind : ∀ (kV doc pm : Value) (an : Option Addr) (cdv ct u : Value), bindArgs (PySem.W.fnOf d.name d.name (defArgs st) (defBody st) (defScope st) .none kV doc pm an cdv ct) ⟨[u], []⟩ = pure [(x, u)])
    (hn : l.most = some 63) (hdf : d.params.defaults = []) (hr : Room k callerA) (hY : ∀ (w : World) (h : Heap), YP w h → (K w.params).In h)
    (hT : ∀ (w : World) (mg : Str → Option Value) (h : Heap), YP w h → (K w.params).In h → h.Ns mainGlobals mg → FTx (K w.params) mg d.name st [x] ∧ TabL (K w.params) mg h ts ∧ ∀ base, (∀ t ∈ ts, TabK base (K w.params) mg t.1) → FnE l.prog w (K w.params) mg base k d.name st [x] g) :
    PySem.W.WalkO q loose XP YP l.row.toRowW d [] (fun f vs => PySem.call f vs) := by
  refine LamX.walk_ofTs (l := l) (n := 63) (k := k) (x := x) (CX := fun w => L2.CX l.prog w) hn (by decide) hdf hr hY ?_ fun w H s e s' z => cx_end z
  intro w mg fa h Y KX G hmg
  obtain ⟨⟨f, fd, F, hf, hb⟩, T, hE⟩ := hT w mg h Y KX G
  rw [hmg] at hf
  cases hf
  refine ⟨fd, ts.map (·.2), spF (spM (K w.params) mg 1 g), fun p m => ?_, fun p m => ?_, fun p m => ?_, fun s u => ?_, fun H a ns hl _ hH hS => ?_, fun base KB GB hTB => ?_⟩
  · obtain ⟨t, ht, rfl⟩ := List.mem_map.mp m
    exact (T.2 t ht).2.2.1
  · obtain ⟨t, ht, rfl⟩ := List.mem_map.mp m
    exact (T.2 t ht).2.2.2
  · obtain ⟨t, ht, rfl⟩ := List.mem_map.mp m
    exact PySem.W.codeHd_of_K KX (T.2 t ht).2.1
  · obtain ⟨oc, od, kV, doc, pm, an, cdv, ct, osl, rfl, _, _⟩ := F.ex
    exact .of_eq (hbind kV doc pm an cdv ct u)
  · have intsW : ∀ (H : Hp) (ns : List Int), RWs (K w.params) mg ⟨ts.map (·.2.2), [], fun _ => none⟩ H (ns.map W.int) (ns.map V.int) := fun H ns => by
      induction ns with
      | nil => exact .nil
      | cons n r ih => exact .cons (.int n) ih
    have main : ∀ H : Hp, (∀ t ∈ ts, H t.2.2 = some (.tbl #[])) → ((∃ o, H a = some (.frz o (.lst (ns.map V.int)))) ∨ KList (K w.params) a (ns.map V.int)) → spM (K w.params) mg 1 g [.ref a] H (fun v _ => v = .bl true) fun _ _ _ => False := fun H hH hA => by
      refine ⟨⟨ts.map (·.2.2), [], fun _ => none⟩, _, [.flst (ns.map W.int)], rep_tabs T hH, .cons (.flst ?_ (intsW H ns)) .nil, rfl, ?_⟩
      · refine hA.imp (fun ⟨o, z⟩ => ⟨o, z, (fun m => ?_), (fun m => nomatch m)⟩) id
        obtain ⟨t, ht, e⟩ := List.mem_map.mp m
        have z2 := hH t ht
        rw [e, z] at z2; cases z2
      · obtain ⟨S, e⟩ := hg ns hl
        rw [e]
        intro ρ' H' v _ _ r
        cases r
        rfl
    have hH' : ∀ t ∈ ts, H t.2.2 = some (.tbl #[]) := fun t ht => hH t.2 (List.mem_map.mpr ⟨t, ht, rfl⟩)
    rcases hS with (hS | hS) | hS
    · refine .inr ⟨a, _, rfl, hS, fun o => main _ (fun t ht => ?_) (.inl ⟨o, upd_same⟩)⟩
      rw [upd_ne fun z => by have q := hH' t ht; rw [z, hS] at q; cases q]
      exact hH' t ht
    · exact .inl (main H hH' (.inl hS))
    · exact .inl (main H hH' (.inr hS))
  · have tk : ∀ t ∈ ts, TabK base (K w.params) mg t.1 := fun t ht => by
      refine ⟨KB, fun f' c oc od fd' osl P' h1 h2 h3 h4 => ?_⟩
      obtain ⟨⟨f2, oc2, od2, fd2, osl2, g1, g2, g3⟩, g4, _⟩ := T.2 t ht
      rw [h1] at g1; cases g1
      rw [h2] at g2; cases g2
      rw [h3] at g3; cases g3
      have e := hd_one h4 (PySem.W.codeHd_of_K KB g4)
      subst e
      exact hTB t.2 (List.mem_map.mpr ⟨t, ht, rfl⟩)
    obtain ⟨f', fd', h1, h2, h3, h4⟩ := hE base tk
    rw [hmg] at h1
    cases h1
    obtain ⟨oc, od, kV, doc, pm, an, cdv, ct, osl, e1, l1, _⟩ := F.ex
    obtain ⟨oc', od', kV', doc', pm', an', cdv', ct', osl', e2, l2, _⟩ := h2.ex
    rw [l1] at l2
    injection l2 with l2
    injection l2 with _ _ l2 _
    injection l2 with l2
    subst l2
    exact fn_frz h4
end RL
namespace RL
open PySem PySem.Spec L2
section
variable {K : PySem.W.Frag} {mg : Str → Option Value} {h : Heap} {x : Str} {c P : Addr} {t : Str × Addr × Addr} {ts : List (Str × Addr × Addr)}
noncomputable def TabOne (K : PySem.W.Frag) (mg : Str → Option Value) (t : Str × Addr × Addr) : Prop := ∃ f oc od fd osl, mg t.1 = some (.ref f) ∧ K.lookup f = some ⟨oc, od, .func fd, osl⟩ ∧ fd.code = .ref t.2.1
theorem tab_one (X : K.In h) (G : h.Ns mainGlobals mg) (e : PySem.W.tabIn K x = some (c, P)) : TabOne K mg (x, c, P) := tab_at X G e
theorem tabL_nil : TabL K mg h [] := ⟨List.nodup_nil, fun _ m => nomatch m⟩
theorem tabL_cons (T : TabOne K mg t) (h1 : PySem.W.codeHdIn K t.2.1 t.2.2 = true) (h2 : h.get? t.2.2 = some (PySem.W.tabObj #[])) (h3 : K.lookup t.2.2 = none) (R : TabL K mg h ts) (h4 : (ts.map (·.2.2)).contains t.2.2 = false) : TabL K mg h (t :: ts) := by
  refine ⟨?_, fun s m => ?_⟩
  · rw [List.map_cons, List.nodup_cons]
    refine ⟨fun m => ?_, R.1⟩
    rw [List.contains_iff_mem.mpr m] at h4; cases h4
  · rcases List.mem_cons.mp m with rfl | m
    · exact ⟨T, h1, h2, h3⟩
    · exact R.2 s m
end
end RL
end
section
set_option maxRecDepth 100000
set_option maxHeartbeats 4000000
/-! objects that change: made, their fields stored; startswith from a place; keys of a written dict; facts of raising -/
namespace RL
open PySem PySem.Spec L2 OrdX
open PyProof.Rows hiding St
variable [Lams]
/-! ### fields are stored -/
noncomputable def putA {α : Type} (f : Str) (v : α) : List (Str × α) → List (Str × α)
  | [] => [(f, v)]
  | (g, x) :: r => if g = f then (g, v) :: r else (g, x) :: putA f v r
theorem putA_V {f : Str} {v : V} : ∀ {fs : List (Str × V)}, putF f v fs = putA f v fs
  | [] => rfl
  | (g, x) :: r => by
    unfold putF putA
    rw [putA_V (fs := r)]
/-- an object of the store of the class c -/
noncomputable def insL (S : Store) (w : W) : Option (Nat × Str × List Str × List W) := match w with
  | .ref l => match S[l]? with
    | some (.ins c ns ws) => some (l, c, ns, ws)
    | _ => none
  | _ => none
noncomputable def insO (c : Str) (z : List (Str × W)) : Ob := .ins c (z.map (·.1)) (z.map (·.2))
noncomputable def gPut (c f : Str) (o v : W) (S : Store) : Res Unit := match insL S o with
  | some (l, c', ns, ws) => if c' = c ∧ ns.length < 900 ∧ ns.length = ws.length then .ok () (S.set l (insO c (putA f v (ns.zip ws)))) else .bad
  | none => .bad
section
variable {K : PySem.W.Frag} {mg : Str → Option Value} {ρ : RT} {H : Hp} {S : Store} {c f : Str} {ns : List Str} {ws : List W} {l : Nat} {x : V}
theorem insL_of {w : W} {c' : Str} (rep : RepS K mg ρ H S) (r : RW K mg ρ H w x) (h : insL S w = some (l, c', ns, ws)) : ∃ a C dx vs, x = .ref a ∧ w = .ref l ∧ ρ.r[l]? = some a ∧ mg c' = some (.ref C) ∧ H a = some (.ins C dx (ns.zip vs)) ∧ ns.length = vs.length ∧ RWs K mg ρ H ws vs := by
  cases w with
  | ref k =>
    cases r with
    | @ref _ a hl =>
      unfold insL at h
      dsimp only at h
      cases e : S[k]? with
      | none => rw [e] at h; cases h
      | some ob =>
        rw [e] at h
        cases ob with
        | ins c2 ns2 ws2 =>
          cases h
          obtain ⟨a', h1, h2⟩ := rep.ob _ _ e
          rw [hl] at h1; cases h1
          cases h2 with
          | ins hc h3 h4 h5 => exact ⟨a, _, _, _, rfl, rfl, hl, hc, h3, h4, h5⟩
        | _ => cases h
  | _ => cases h
theorem putA_rws {v : V} {w : W} (r : RW K mg ρ H w v) : ∀ {ns : List Str} {ws : List W} {vs : List V}, RWs K mg ρ H ws vs → ns.length = vs.length → (putA f w (ns.zip ws)).map (·.1) = (putA f v (ns.zip vs)).map (·.1) ∧ RWs K mg ρ H ((putA f w (ns.zip ws)).map (·.2)) ((putA f v (ns.zip vs)).map (·.2))
  | [], _, _, .nil, _ => ⟨rfl, .cons r .nil⟩
  | n :: ns, _ :: us, _ :: xs, .cons q t, h => by
    have ih := putA_rws r (ns := ns) t (by simpa using h)
    rw [List.zip_cons_cons, List.zip_cons_cons]
    unfold putA
    by_cases e : n = f
    · rw [if_pos e, if_pos e]
      have l2 : ns.length = xs.length := by simpa using h
      have l1 : ns.length = us.length := by rw [t.length]; exact l2
      refine ⟨by rw [List.map_cons, List.map_cons, map1_zip l1, map1_zip l2], ?_⟩
      rw [List.map_cons, List.map_cons, map2_zip l1, map2_zip l2]
      exact .cons r t
    · rw [if_neg e, if_neg e]
      exact ⟨by rw [List.map_cons, List.map_cons, ih.1], .cons q ih.2⟩
  | [], _, _, .cons _ _, h => by simp at h
  | _ :: _, _, _, .nil, h => by simp at h
theorem zip_self {α : Type} (z : List (Str × α)) : (z.map (·.1)).zip (z.map (·.2)) = z := zip_unzip z
theorem ro_put {a C dx : Addr} {v : V} {w : W} {vs : List V} (hC : mg c = some (.ref C)) (h : H a = some (.ins C dx (putA f v (ns.zip vs)))) (r : RW K mg ρ H w v) (rs : RWs K mg ρ H ws vs) (hl : ns.length = vs.length) : RO K mg ρ H a (insO c (putA f w (ns.zip ws))) := by
  obtain ⟨e1, e2⟩ := putA_rws (f := f) r rs hl
  refine .ins (dx := dx) (vs := (putA f v (ns.zip vs)).map (·.2)) hC ?_ (by rw [e1, List.length_map, List.length_map]) e2
  rw [e1, zip_self]; exact h
end
noncomputable def mPutF (c f : Str) (mo mv : SM W) : SS := fun s S => (mv s S).bind fun v S1 => (mo s S1).bind fun o S2 => (gPut c f o v S2).bind fun _ S3 => .ok (.nx, s) S3
section
variable {X : Cx} {E : EK} {pos pos' tpos : Pos} {o e : Expr} {mo mv : SM W} {c f : Str}
theorem out_put {ρ : RT} {H : Hp} {S : Store} {s : Env'} {σ : L2.St} {D : Ends} {ow vw : W} {x y : V} (T : FldT X.K X.mg c f) (rep : RepS X.K X.mg ρ H S) (env : REnv X.K X.mg ρ H E s σ) (r : RW X.K X.mg ρ H ow x) (q : RW X.K X.mg ρ H vw y) (o : OutS X.K X.mg E ρ H ((gPut c f ow vw S).bind fun _ S3 => .ok (.nx, s) S3) D) :
    ∃ a C dx fs, x = .ref a ∧ H a = some (.ins C dx fs) ∧ Cls X.K C ∧ NoAttr X.K C f ∧ fs.length < 1000 ∧ D.nx σ (upd H a (.ins C dx (putF f y fs))) := by
  obtain ⟨C, hC, hcl, hna⟩ := T
  unfold gPut at o
  cases e : insL S ow with
  | none => rw [e] at o; exact o.elim
  | some t =>
    obtain ⟨l, c', ns, ws⟩ := t
    rw [e] at o
    dsimp only at o
    split at o
    · rename_i hz
      obtain ⟨rfl, h9, hzl⟩ := hz
      obtain ⟨a, C', dx, vs, rfl, rfl, hl, hC', ha, hnl, rs⟩ := insL_of rep r e
      rw [hC] at hC'; cases hC'
      have hlz : (ns.zip vs).length < 1000 := by rw [List.length_zip]; omega
      refine ⟨a, C, dx, ns.zip vs, rfl, ha, hcl, hna, hlz, ?_⟩
      have ma : a ∈ ρ.r := List.mem_of_getElem? hl
      have ex : Ext ρ H ρ (upd H a (.ins C dx (putF f y (ns.zip vs)))) := ⟨fun _ _ h => h, fun _ h => h, fun _ h => .inl h, fun b u hb n => by rw [upd_ne fun z : b = a => n (by rw [z]; exact ma)]; exact hb, fun _ h => .inl h, fun b _ hb => by
        by_cases hz : b = a
        · subst hz; rw [upd_same]; simp
        · rw [upd_ne hz]; exact hb, rfl⟩
      obtain ⟨e6, rep6⟩ := rep.wr hl (o := .ins C dx (putF f y (ns.zip vs))) (u := insO c' (putA f vw (ns.zip ws))) (ro_put hC (by rw [← putA_V]; exact upd_same) (q.ext ex) (rs.ext ex) hnl)
      exact o ρ _ σ e6 rep6 (env.ext ex)
    · exact o.elim
/-- o.f = e, o an object of the store -/
theorem psm_putF (T : FldT X.K X.mg c f) (ho : PM X E o mo) (hv : PM X E e mv) (hs : swapsWith e (some (.Attribute o f pos')) pos.line X.env = pure false := by rfl) : PSM X E (.Assign [.Attribute o f pos'] e pos) (mPutF c f mo mv) :=
  ps_imp (ps_fld ho hv hs) fun D σ H h => tS.bind h fun ρ1 H1 v y s S1 rep env r o1 => ⟨ρ1, s, S1, rep, env, OutS.bind o1 fun ρ2 H2 ow x S2 e2 rep2 r2 o2 => out_put T rep2 (env.ext e2) r2 (r.ext e2) o2⟩
noncomputable def mAugF (c f : Str) (mo mv : SM W) : SS := fun s S => (mo s S).bind fun o S1 => (gFld c f o S1).bind fun x S2 => (mv s S2).bind fun y S3 => match x, y with
  | .int i, .int j => (gPut c f o (.int (i + j)) S3).bind fun _ S4 => .ok (.nx, s) S4
  | _, _ => .bad
/-- o.f += e, ints -/
theorem psm_augF (T : FldT X.K X.mg c f) (ho : PM X E o mo) (hv : PM X E e mv) : PSM X E (.AugAssign (.Attribute o f tpos) .Add e pos) (mAugF c f mo mv) :=
  ps_imp (ps_fldaug ho hv in_add) fun D σ H h => tS.bind h fun ρ1 H1 ow x s S1 rep env r o1 => by
    have T' := T
    obtain ⟨C, hC, hcl, hna⟩ := T'
    unfold gFld at o1
    cases e : insAt S1 ow with
    | none => rw [e] at o1; exact o1.elim
    | some t =>
      obtain ⟨c', ns, ws⟩ := t
      obtain ⟨a, C', dx, vs, rfl, hC', ha, hnl, rs⟩ := insAt_of rep r e
      rw [e] at o1
      dsimp only at o1
      split at o1
      · rename_i hc
        cases e2 : (ns.zip ws).lookup f with
        | none => rw [e2] at o1; exact o1.elim
        | some fw =>
          rw [e2] at o1
          obtain ⟨fv, l1, l2⟩ := lookup_rws rs e2
          subst hc
          rw [hC] at hC'; cases hC'
          refine ⟨a, C, dx, _, fv, rfl, ha, hcl, hna, l1, ρ1, s, S1, rep, env, OutS.bind o1 fun ρ2 H2 yw y S2 ex rep2 r2 o2 => ?_⟩
          cases fw with
          | int i =>
            cases yw with
            | int j =>
              cases l2; cases r2
              refine ⟨i, j, rfl, rfl, ?_⟩
              obtain ⟨a', C2, dx2, fs2, ea, ha2, _, _, hlen, q⟩ := out_put T rep2 (env.ext ex) (r.ext ex) (.int (i + j)) o2
              cases ea
              have := hC
              refine ⟨dx2, fs2, ?_, hlen, ?_⟩
              · obtain ⟨l, c3, ns3, ws3, e3⟩ : ∃ l c3 ns3 ws3, insL S2 ow = some (l, c3, ns3, ws3) := by
                  unfold gPut at o2
                  cases e3 : insL S2 ow with
                  | none => rw [e3] at o2; exact o2.elim
                  | some t => exact ⟨t.1, t.2.1, t.2.2.1, t.2.2.2, rfl⟩
                unfold gPut at o2
                rw [e3] at o2
                dsimp only at o2
                split at o2
                · rename_i hz
                  obtain ⟨a4, C4, dx4, vs4, ea4, _, _, hC4, ha4, _⟩ := insL_of rep2 (r.ext ex) e3
                  cases ea4
                  rw [hz.1, hC] at hC4; cases hC4
                  rw [ha4] at ha2 ⊢
                  cases ha2; rfl
                · exact o2.elim
              · obtain ⟨l, c3, ns3, ws3, e3⟩ : ∃ l c3 ns3 ws3, insL S2 ow = some (l, c3, ns3, ws3) := by
                  unfold gPut at o2
                  cases e3 : insL S2 ow with
                  | none => rw [e3] at o2; exact o2.elim
                  | some t => exact ⟨t.1, t.2.1, t.2.2.1, t.2.2.2, rfl⟩
                unfold gPut at o2
                rw [e3] at o2
                dsimp only at o2
                split at o2
                · rename_i hz
                  obtain ⟨a4, C4, dx4, vs4, ea4, _, _, hC4, ha4, _⟩ := insL_of rep2 (r.ext ex) e3
                  cases ea4
                  rw [hz.1, hC] at hC4; cases hC4
                  rw [ha4] at ha2
                  cases ha2
                  exact q
                · exact o2.elim
            | _ => exact o2.elim
          | _ => exact o2.elim
      · exact o1.elim
end
/-! ### C(..): an object of the store, its __init__ run -/
noncomputable def InE (P : Program) (w : World) (K : PySem.W.Frag) (mg : Str → Option Value) (base : Heap) (k : Nat) (c : Str) (n : Nat) (g : Fn) : Prop :=
  ∃ C f fd ps, mg c = some (.ref C) ∧ Mk K C f ∧ Binds K fd ps [] ∧ ps.length = n ∧ FnM P w K mg base k f fd ps ps.length g
theorem in_e {P : Program} {w : World} {K : PySem.W.Frag} {mg : Str → Option Value} {base : Heap} {c q : Str} {st : Stmt} {N ps ns : List Str} {k : Nat} {b : SS} (T : MkTx K mg c q st ps ns) (Sc : FnScope N ps (defScope st))
    (hb : ∀ (f : Addr) (cdv : Value) (A : Around) (outer : List Env) (s : Shared) (H : Hp) (E : EK), Room k (A.deeper (envOfC q (defScope st) s.heap.objs.size f cdv)) → Takes (cxOf (L2.CX P w) P w K mg base N q (defScope st) f cdv A outer s H E) (fun c d _ H => E c d H) → PSsM (cxOf (L2.CX P w) P w K mg base N q (defScope st) f cdv A outer s H E) E (defBody st) b) :
    InE P w K mg base (k + 1) c ps.length (runB N.length b) := by
  obtain ⟨C, f, fd, h1, h2, h3, F, h5, h6⟩ := T
  exact ⟨C, f, fd, ps, h1, h3, h5, rfl, fn_m F Sc (hb f)⟩
noncomputable def gMakeI (c : Str) (g : Fn) (ws : List W) (S : Store) : Res W := (g (.ref S.length :: ws) (S ++ [.ins c [] []])).bind fun w S2 => match w with
  | .non => .ok (.ref S.length) S2
  | _ => .bad
section
variable {X : Cx} {E : EK} {pos p : Pos} {e : Expr} {es : List Expr} {mr : SM (List W)} {c : Str} {n k k' : Nat} {g : Fn}
theorem pm_makeI [hl : Len mr n] (F : InE X.prog X.w X.K X.mg X.base k c (n + 1) g) (hr : Room k' X.A) (hk : k + 1 ≤ k') (tk : Takes X (fun c d _ H => E c d H)) (ha : PAM X E (e :: es) mr)
    (hg : Gl X c := by rfl) (hdb : (c == ("__debug__" : Str)) = false := by decide +kernel) (he : starEach (e :: es) X.env = (false, eval e X.env) :: starEach es X.env := by rfl) (hpl : (backTo pos (starEach es X.env)).any (·.1) = false := by rfl) : PM X E (.Call (.Name c p) (e :: es) [] pos) (mAp (gMakeI c g) mr) := by
  obtain ⟨C, f, fd, ps, h1, h2, h3, hps, h4⟩ := F
  refine pe_imp (pe_make (E := E) h2 h4 (hr.mono hk) hg h1 h3 .nil (passM tk) ha hdb he hpl) fun σ H Q h => ?_
  obtain ⟨ρ, sW, S, rep, env, o⟩ := h
  refine ⟨ρ, sW, S, rep, env, ?_⟩
  unfold mAp at o
  cases e1 : mr sW S with
  | exc cn ns ws S1 => rw [e1] at o; exact o
  | bad => rw [e1] at o; exact o
  | ok ws S1 =>
    rw [e1] at o
    have o : Out X.K X.mg (RW X.K X.mg) E ρ H (gMakeI c g ws S1) Q := o
    intro ρ1 H1 vs x1 rep1 r x dx hx hdx hne
    rw [List.append_nil]
    have o := Out.ext x1 o
    unfold gMakeI at o
    obtain ⟨ea, repa⟩ := rep1.tree hdx (.own x)
    have hx1 : upd H1 dx (.own x) x = none := by rw [upd_ne (fun z => hne z.symm)]; exact hx
    obtain ⟨eb, repb⟩ := repa.push (o := .ins C dx []) (u := .ins c [] []) hx1 (.ins (dx := dx) (vs := []) h1 upd_same rfl .nil)
    have eab := ea.trans eb
    have rx : RW X.K X.mg (ρ1.snoc x) (upd (upd H1 dx (.own x)) x (.ins C dx [])) (.ref S1.length) (.ref x) := .ref (by
      show (ρ1.r ++ [x])[S1.length]? = some x
      rw [← rep1.len, List.getElem?_append_right (Nat.le_refl _), Nat.sub_self]; rfl)
    refine ⟨_, _, .ref S1.length :: ws, repb, .cons rx (r.ext eab), by rw [List.length_cons, hl.len _ _ _ _ e1, hps], ?_⟩
    refine Out.bind (Out.ext eab o) fun ρ2 H2 w v S2 e2 rep2 r2 o2 => ?_
    cases w with
    | non => cases r2; exact ⟨rfl, Out.here o2 rep2 (rx.ext e2)⟩
    | _ => exact o2.elim
end
/-! ### o.startswith(e, n) -/
noncomputable def twoSI : List W → Option (Str × Int)
  | [.str b, .int i] => some (b, i)
  | _ => none
theorem twoSI_of {ws : List W} {p : Str × Int} (h : twoSI ws = some p) : ws = [.str p.1, .int p.2] := by
  unfold twoSI at h
  split at h
  · cases h; rfl
  · cases h
noncomputable def mStarts3 (mo : SM W) (mr : SM (List W)) : SM W := fun s S => (mo s S).bind fun o S1 => match o with
  | .str a => (mr s S1).bind fun ws S2 => match twoSI ws with
    | some p => .ok (.bl (Txt.startswith3 a p.1 p.2)) S2
    | none => .bad
  | _ => .bad
theorem pm_starts3 {X : Cx} {E : EK} {o e : Expr} {es : List Expr} {mo : SM W} {mr : SM (List W)} {apos cpos : Pos} (ho : PM X E o mo) (ha : PAM X E (e :: es) mr)
    (hbase : attributeBase o "startswith" X.env (eval o X.env) = eval o X.env := by rfl)
    (hfew : ((backTo cpos (starEach (e :: es) X.env)).all (fun x => !x.1) && (backToKw cpos (keywordEach [] X.env)).all (fun x => x.1.isSome)
      && decide ((e :: es).length + ([] : List Keyword).length + (if ([] : List Keyword).isEmpty then 0 else 1) < 30)) = true := by rfl)
    (hline : (apos.endLine == cpos.line) = true := by rfl) (hs : starEach (e :: es) X.env = (false, eval e X.env) :: starEach es X.env := by rfl) (hplain : (backTo cpos (starEach es X.env)).any (·.1) = false := by rfl) :
    PM X E (.Call (.Attribute o "startswith" apos) (e :: es) [] cpos) (mStarts3 mo mr) := by
  refine pe_imp (pe_bm PySem.F.plainAttrs_str PySem.F.slot_str_startswith PySem.F.type_str_startswith mt_startswith3 ho ha hbase hfew hline hs hplain) fun σ H Q h => tX.bind h fun ρ1 H1 w x s S1 rep env rx out => ?_
  cases w with
  | str a =>
    cases rx
    refine ⟨rfl, ρ1, s, S1, rep, env, Out.bind out fun ρ2 H2 ws xs S2 e2 rep2 r2 o2 => ?_⟩
    cases e3 : twoSI ws with
    | none => rw [e3] at o2; exact o2.elim
    | some p =>
      rw [e3] at o2
      rw [twoSI_of e3] at r2
      obtain ⟨y, z, rfl, q1, q2⟩ := r2.two
      cases q1; cases q2
      exact ⟨a, p.1, p.2, rfl, rfl, Out.here o2 rep2 (.bl _)⟩
  | _ => exact out.elim
end RL
namespace RL
open PySem PySem.Spec L2 OrdX
open PyProof.Rows hiding St
variable [Lams]
/-! ### a written dict's keys -/
noncomputable def KInT (K : PySem.W.Frag) (mg : Str → Option Value) (w : World) (x : Str) (ks : List Str) : Prop := ∃ p es n, mg x = some (.ref p) ∧ KDict K w p es n ∧ ∀ z : Str, ∃ r, PySem.W.nsIn K p z = some r ∧ r.isSome = ks.contains z
noncomputable def mCIn (neg : Bool) (ks : List Str) (mi : SM W) : SM W := fun s S => (mi s S).bind fun k S1 => match k with
  | .str z => .ok (.bl (xorB neg (ks.contains z))) S1
  | _ => .bad
noncomputable def mCInT (neg : Bool) (ks : List Str) (mi : SM W) : SM Bool := fun s S => asB (mCIn neg ks mi s S)
section
variable {X : Cx} {E : EK} {pos p : Pos} {i : Expr} {mi : SM W} {x : Str} {ks : List Str}
theorem cin_of {neg : Bool} {d : Addr} {es : Array DictEntry} {n : Nat} {rd : R2} (D : KDict X.K X.w d es n) (hk : ∀ z : Str, ∃ r, PySem.W.nsIn X.K d z = some r ∧ r.isSome = ks.contains z)
    (hrd : ∀ (z : Str) (r : Option Value) (H : Hp) (Q : VK), PySem.W.nsIn X.K d z = some r → Q (.bl (xorB neg r.isSome)) H → rd (.str z) (.ref d) H Q) {σ : L2.St} {H : Hp} {Q : VK} (q : tE X E (mCIn neg ks mi) σ H Q) : tOp rd (tE X E mi) (tC (.ref d)) σ H Q :=
  tX.bind q fun ρ1 H1 w y s S1 rep env r o => by
    cases w with
    | str z =>
      cases r
      obtain ⟨r, h1, h2⟩ := hk z
      exact hrd z r H1 Q h1 (by rw [h2]; exact Out.here o rep (.bl _))
    | _ => exact o.elim
theorem ptm_cnin (T : KInT X.K X.mg X.w x ks) (hi : PM X E i mi) (hg : Gl X x := by rfl) (hd : (x == ("__debug__" : Str)) = false := by decide +kernel) (hm : behindInMarks .NotIn (.Name x p) = false := by first | exact nomark _ | rfl) : PTM X E (.Compare i [.NotIn] [.Name x p] pos) (mCInT true ks mi) := by
  obtain ⟨d, es, n, h1, D, hk⟩ := T
  exact pt_imp (pt_cmpR (op_notIn_kd D) hi (pe_glob (v := .ref d) hg h1 rfl hd) hm) fun σ H Q ⟨ρ, s, S, rep, env, o⟩ => cin_of D hk (fun z r H Q e q => ⟨z, r, rfl, rfl, e, q⟩) ⟨ρ, s, S, rep, env, out_asB o⟩
end
noncomputable def keyS : Value → Option Str
  | .str y _ => some y
  | _ => none
theorem keys_find {z : Str} : ∀ {es : List DictEntry} {ks : List Str}, es.map (fun e => keyS e.key) = ks.map some → ((es.find? (·.key.isStr z)).isSome = ks.contains z) ∧ es.any (·.refKey) = false
  | [], [], _ => ⟨rfl, rfl⟩
  | e :: es, k :: ks, h => by
    rw [List.map_cons, List.map_cons] at h
    have h1 := (List.cons.inj h).1
    obtain ⟨i1, i2⟩ := keys_find (z := z) (List.cons.inj h).2
    obtain ⟨y, t, ek⟩ : ∃ y t, e.key = .str y t := by
      cases hk : e.key with
      | str y t => exact ⟨y, t, rfl⟩
      | _ => rw [hk] at h1; cases h1
    have : y = k := by rw [ek] at h1; exact Option.some.inj h1
    subst this
    constructor
    · rw [List.find?_cons, List.contains_cons, ek]
      by_cases hz : z = y
      · subst hz
        have : (Value.str z t).isStr z = true := by simp [Value.isStr]
        rw [this]; simp
      · have : (Value.str y t).isStr z = false := by simp [Value.isStr]; exact fun q => hz q.symm
        rw [this]
        have : (z == y) = false := by simpa using hz
        rw [this, Bool.false_or]; exact i1
    · rw [List.any_cons, i2]
      unfold DictEntry.refKey
      rw [ek]; rfl
  | [], _ :: _, h => nomatch h
  | _ :: _, [], h => nomatch h
theorem kin_mk {K : PySem.W.Frag} {mg : Str → Option Value} {h : Heap} {x : Str} {w : World} {p : Addr} {es : Array DictEntry} {n : Nat} {ks : List Str} (X : K.In h) (G : h.Ns mainGlobals mg) (a : PySem.W.nsIn K mainGlobals x = some (some (.ref p))) (l : K.lookup p = some ⟨.type "dict", none, .dict es n, #[]⟩) (k : PySem.W.KeysLit w.params es.toList)
    (low : (p == sysModules) = false) (hk : es.toList.map (fun e => keyS e.key) = ks.map some) : KInT K mg w x ks := by
  refine ⟨p, es, n, PySem.W.mg_of X G a, ⟨l, k, low⟩, fun z => ?_⟩
  obtain ⟨h1, h2⟩ := keys_find (z := z) hk
  unfold PySem.W.nsIn
  rw [l]
  dsimp only
  cases e : es.toList.find? (·.key.isStr z) with
  | some q => exact ⟨_, rfl, by rw [e] at h1; exact h1⟩
  | none => exact ⟨none, by rw [h2]; rfl, by rw [e] at h1; exact h1⟩
/-! ### facts of raising and catching -/
theorem rat_mk {K : PySem.W.Frag} {mg : Str → Option Value} {h : Heap} {c : Str} {C : Addr} (X : K.In h) (G : h.Ns mainGlobals mg) (a : PySem.W.nsIn K mainGlobals c = some (some (.ref C))) (s : PySem.W.subIn K (.ref C) (.type "BaseException") = some true) (t : PySem.W.typeIn K (.ref C) = some (.type "type")) : RaT K mg c := fun D hD => by
  rw [PySem.W.mg_of X G a] at hD; cases hD
  exact ⟨s, t⟩
/-- the classes of an except clause -/
noncomputable def KxTx (K : PySem.W.Frag) (mg : Str → Option Value) (x1 x2 x3 : Str) (tab : List (Str × Bool)) : Prop := ∃ C1 C2 C3, mg x1 = some (.ref C1) ∧ mg x2 = some (.ref C2) ∧ mg x3 = some (.ref C3) ∧ KxT K mg (fun c => tab.lookup c) [.ref C1, .ref C2, .ref C3]
/-- one class against the clause -/
noncomputable def KxOne (K : PySem.W.Frag) (mg : Str → Option Value) (C1 C2 C3 : Addr) (c : Str) (b : Bool) : Prop := ∀ C, mg c = some (.ref C) → PySem.W.exmAny K (.ref C) [.ref C1, .ref C2, .ref C3] = some b
theorem kxOne_mk {K : PySem.W.Frag} {mg : Str → Option Value} {h : Heap} {c : Str} {C C1 C2 C3 : Addr} {b1 b2 b3 : Bool} (X : K.In h) (G : h.Ns mainGlobals mg) (a : PySem.W.nsIn K mainGlobals c = some (some (.ref C)))
    (e1 : PySem.W.exmOne K (.ref C) (.ref C1) = some b1) (e2 : PySem.W.exmOne K (.ref C) (.ref C2) = some b2) (e3 : PySem.W.exmOne K (.ref C) (.ref C3) = some b3) {b : Bool} (hb : (b1 || (b2 || (b3 || false))) = b) : KxOne K mg C1 C2 C3 c b := fun D hD => by
  subst hb
  rw [PySem.W.mg_of X G a] at hD; cases hD
  simp only [PySem.W.exmAny, e1, e2, e3]
theorem exm_mk {K : PySem.W.Frag} {C D : Addr} {b : Bool} (s : PySem.W.subIn K (.ref D) (.type "BaseException") = some true) (h1 : PySem.W.isClsIn K D = true) (h2 : PySem.W.typeIn K (.ref D) = some (.type "type")) (h3 : PySem.W.subIn K (.ref C) (.ref D) = some b) : PySem.W.exmOne K (.ref C) (.ref D) = some b := by
  unfold PySem.W.exmOne
  rw [s, if_pos (by rfl)]
  unfold PySem.W.kitCls
  dsimp only
  rw [show (PySem.W.clsIn K D).isSome = true from h1, h2, Bool.true_and, if_pos (beq_self_eq_true _)]
  exact h3
theorem kxTx_mk {K : PySem.W.Frag} {mg : Str → Option Value} {h : Heap} {x1 x2 x3 : Str} {C1 C2 C3 : Addr} {tab : List (Str × Bool)} (X : K.In h) (G : h.Ns mainGlobals mg) (a1 : PySem.W.nsIn K mainGlobals x1 = some (some (.ref C1))) (a2 : PySem.W.nsIn K mainGlobals x2 = some (some (.ref C2))) (a3 : PySem.W.nsIn K mainGlobals x3 = some (some (.ref C3)))
    (ht : ∀ p ∈ tab, KxOne K mg C1 C2 C3 p.1 p.2) : KxTx K mg x1 x2 x3 tab := by
  refine ⟨C1, C2, C3, PySem.W.mg_of X G a1, PySem.W.mg_of X G a2, PySem.W.mg_of X G a3, fun c C b hC hb => ?_⟩
  have mem : (c, b) ∈ tab := by
    clear ht
    induction tab with
    | nil => cases hb
    | cons q r ih =>
      obtain ⟨k0, v0⟩ := q
      have hb : List.lookup c ((k0, v0) :: r) = some b := hb
      rw [List.lookup_cons] at hb
      cases hk : c == k0 with
      | true => rw [hk] at hb; cases hb; rw [eq_of_beq hk]; exact List.mem_cons_self
      | false => rw [hk] at hb; exact List.mem_cons_of_mem _ (ih hb)
  exact ht _ mem C hC
open L2H in
theorem hu64H {k : Nat} {A : Around} (hr : RoomH k A) : A.units + 64 < cLine := by have := hr.un; omega
open L2H in
theorem hu65H {k : Nat} {A : Around} (hr : RoomH k A) : A.units + 65 < cLine := by have := hr.un; omega
open L2H in
theorem room_suite {X : Cx} {k : Nat} (hr : Room k X.A) (a : Addr) (pn : List (Addr × Obj)) : RoomH k (X.suite a pn).A := ⟨hr.dp, hr.un⟩
end RL
end
section
set_option maxRecDepth 100000
set_option maxHeartbeats 2000000
/-! More of a program: texts cut at a mark, properties. -/
namespace RL
open PySem PySem.Spec L2
open PyProof.Rows hiding St
variable [Lams]
section
variable {K : PySem.W.Frag} {mg : Str → Option Value} {ρ : RT} {H : Hp}
theorem rws_strs : ∀ ys : List Str, RWs K mg ρ H (ys.map W.str) (ys.map V.str)
  | [] => .nil
  | _ :: r => .cons (.str _) (rws_strs r)
end
noncomputable def gEnds (a : Str) (w : W) (S : Store) : Res W := match w with
  | .str b => .ok (.bl (Txt.endswith a b)) S
  | _ => .bad
noncomputable def gPartn (a : Str) (w : W) (S : Store) : Res W := match w with
  | .str b => if (b.length == 0) = false ∧ a.length ≤ lim then .ok (.tup ([(Txt.partition a b).1, (Txt.partition a b).2.1, (Txt.partition a b).2.2].map W.str)) S else .bad
  | _ => .bad
section
variable {X : Cx} {E : EK} {o e : Expr} {mo me : SM W} {apos pos : Pos}
theorem pm_ends (ho : PM X E o mo) (he : PM X E e me) (hs : starEach [e] X.env = [(false, eval e X.env)] := by rfl) (hbase : attributeBase o "endswith" X.env (eval o X.env) = eval o X.env := by rfl) (hline : (apos.endLine == pos.line) = true := by rfl) :
    PM X E (.Call (.Attribute o "endswith" apos) [e] [] pos) (mM1 gEnds mo me) :=
  pe_imp (pe_m1 PySem.F.slot_str_endswith PySem.F.type_str_endswith mt_endswith ho he hs hbase hline) fun σ H Q h => m1_of (fun ρ H S a w x Q rep r o => by
    cases w with
    | str b => cases r; exact ⟨a, b, rfl, rfl, Out.here o rep (.bl _)⟩
    | _ => exact o.elim) h
theorem pm_partn (ho : PM X E o mo) (he : PM X E e me) (hs : starEach [e] X.env = [(false, eval e X.env)] := by rfl) (hbase : attributeBase o "partition" X.env (eval o X.env) = eval o X.env := by rfl) (hline : (apos.endLine == pos.line) = true := by rfl) :
    PM X E (.Call (.Attribute o "partition" apos) [e] [] pos) (mM1 gPartn mo me) :=
  pe_imp (pe_partition ho he hs hbase hline) fun σ H Q h => m1_of (fun ρ H S a w x Q rep r o => by
    cases w with
    | str b =>
      cases r
      unfold gPartn at o
      dsimp only at o
      split at o
      · rename_i hz
        exact ⟨a, b, rfl, rfl, hz.1, lim_line hz.2, fun p hp => out_tup o rep hp (rws_strs [(Txt.partition a b).1, (Txt.partition a b).2.1, (Txt.partition a b).2.2])⟩
      · exact o.elim
    | _ => exact o.elim) h
end
/-! ### properties -/
theorem out_nox_g {K : PySem.W.Frag} {mg : Str → Option Value} {ρ : RT} {H : Hp} {E : EK} {r : Res W} {Q : VK} (o : Out K mg (RW K mg) E ρ H (nox r) Q) : Out K mg (RW K mg) EN ρ H r Q := by
  cases r with
  | ok w S => exact o
  | exc c ns ws S => exact o.elim
  | bad => exact o.elim
noncomputable def PrTx (K : PySem.W.Frag) (mg : Str → Option Value) (c f q : Str) (st : Stmt) (ps : List Str) : Prop := ∃ C p g fd, mg c = some (.ref C) ∧ Cls K C ∧ PropOf K C f p g ∧ Fun K f q st g fd ∧ Binds K fd ps []
noncomputable def PrE (P : Program) (w : World) (K : PySem.W.Frag) (mg : Str → Option Value) (base : Heap) (k : Nat) (c f q : Str) (st : Stmt) (ps : List Str) (g : Fn) : Prop :=
  ∃ C p fa fd, mg c = some (.ref C) ∧ Cls K C ∧ PropOf K C f p fa ∧ Fun K f q st fa fd ∧ Binds K fd ps [] ∧ FnM P w K mg base k fa fd ps ps.length g
noncomputable def mProp (c : Str) (g : Fn) (mo : SM W) : SM W := fun s S => (mo s S).bind fun w S1 => match insAt S1 w with
  | some (c', _, _) => if c' = c then nox (g [w] S1) else .bad
  | none => .bad
section
variable {P : Program} {w : World} {K : PySem.W.Frag} {mg : Str → Option Value} {base : Heap}
theorem pr_e {c f q : Str} {st : Stmt} {N ps : List Str} {k : Nat} {b : SS} (T : PrTx K mg c f q st ps) (Sc : FnScope N ps (defScope st))
    (hb : ∀ (fa : Addr) (cdv : Value) (A : Around) (outer : List Env) (s : Shared) (H : Hp) (E : EK), Room k (A.deeper (envOfC q (defScope st) s.heap.objs.size fa cdv)) → Takes (cxOf (L2.CX P w) P w K mg base N q (defScope st) fa cdv A outer s H E) (fun c d _ H => E c d H) → PSsM (cxOf (L2.CX P w) P w K mg base N q (defScope st) fa cdv A outer s H E) E (defBody st) b) :
    PrE P w K mg base (k + 1) c f q st ps (runB N.length b) := by
  obtain ⟨C, p, fa, fd, h1, h2, h3, F, hb'⟩ := T
  exact ⟨C, p, fa, fd, h1, h2, h3, F, hb', fn_m F Sc (hb fa)⟩
end
theorem pm_prop {X : Cx} {E : EK} {pos : Pos} {e : Expr} {mo : SM W} {c f q : Str} {k k' : Nat} {st : Stmt} {ps : List Str} {g : Fn} (F : PrE X.prog X.w X.K X.mg X.base k c f q st ps g) (hr : Room k' X.A) (hk : k + 1 ≤ k') (ho : PM X E e mo) (hn : 1 = ps.length := by rfl)
    (hab : attributeBase e f X.env (eval e X.env) = eval e X.env := by rfl) : PM X E (.Attribute e f pos) (mProp c g mo) := by
  obtain ⟨C, p, fa, fd, h1, h2, h3, F, hb, M⟩ := F
  rw [← hn] at M
  refine pe_imp (pe_prop ho h2 h3 M (hr.mono hk) hb .nil (passM (X := X.nox) takesE0) hab) fun σ H Q h => tX.bind h fun ρ1 H1 w x s S1 rep env r o => ?_
  cases e1 : insAt S1 w with
  | none => rw [e1] at o; exact o.elim
  | some z =>
    obtain ⟨c', ns, ws0⟩ := z
    rw [e1] at o
    dsimp only at o
    split at o
    · rename_i hc
      subst hc
      obtain ⟨a, C', dx, vs0, rfl, hm, ha, hl, hrw⟩ := insAt_of rep r e1
      rw [h1] at hm; cases hm
      exact ⟨a, dx, _, rfl, ha, ρ1, S1, [w], rep, .cons r .nil, rfl, out_nox_g o⟩
    · exact o.elim
end RL
end
section
set_option maxRecDepth 100000
set_option maxHeartbeats 2000000
/-! for k in D (a written dict), min(list of ints). -/
namespace RL
open PySem PySem.Spec L2
open PyProof.Rows hiding St
variable [Lams]
/-- a written dict, its keys in their order -/
noncomputable def KSeqT (K : PySem.W.Frag) (mg : Str → Option Value) (w : World) (x : Str) (ks : List Str) : Prop := ∃ p es n, mg x = some (.ref p) ∧ KDict K w p es n ∧ es.toList.map (fun e => keyS e.key) = ks.map some
/-- the walk over the texts ks -/
noncomputable def Itx (ks : List Str) : It := ⟨fun i _ => i < ks.length, fun i H x H' => H' = H ∧ ∃ k, ks[i]? = some k ∧ x = .str k, fun i _ => ks.length ≤ i⟩
theorem keyS_at {es : Array DictEntry} {ks : List Str} (h : es.toList.map (fun e => keyS e.key) = ks.map some) {i : Nat} {k : Str} (hk : ks[i]? = some k) : ∃ en, es[i]? = some en ∧ keyS en.key = some k := by
  have q := congrArg (fun l => l[i]?) h
  simp only [List.getElem?_map, hk, Option.map_some, Array.getElem?_toList] at q
  cases e : es[i]? with
  | none => rw [e] at q; cases q
  | some en => rw [e] at q; exact ⟨en, rfl, Option.some.inj q⟩
theorem keyS_size {es : Array DictEntry} {ks : List Str} (h : es.toList.map (fun e => keyS e.key) = ks.map some) : es.size = ks.length := by
  have q := congrArg List.length h
  simpa using q
theorem keyS_rel {u : Value} {k : Str} (h : keyS u = some k) : RelV (.str k) u := by
  unfold keyS at h
  split at h
  · cases h; exact ⟨_, rfl⟩
  · cases h
theorem turn_written {P : Program} {w : World} {K : PySem.W.Frag} {tg : Expr} {d : Addr} {es : Array DictEntry} {n : Nat} {ks : List Str} (D : KDict K w d es n) (hk : es.toList.map (fun e => keyS e.key) = ks.map some) (it : Addr) :
    Turn P w K tg (Itx ks) [it] it (fun i h => h.IsKeyIter it d i ks.length n) where
  mem := List.mem_singleton_self _
  obj := fun i h st b hb => by
    obtain rfl := List.mem_singleton.mp hb
    obtain ⟨ob, q, _, z⟩ := st
    exact ⟨ob, q, fun v y => nomatch z.symm.trans y⟩
  keep := fun i h h' st k => st.at fun ob q => k it (List.mem_singleton_self _) ob q
  item := by
    intro X hP hw hK hc i pins s σ H E I hf st hg
    subst hP hw hK
    have F := hf it (List.mem_singleton_self _)
    obtain ⟨k, hki⟩ : ∃ k, ks[i]? = some k := ⟨_, List.getElem?_eq_getElem hg⟩
    obtain ⟨en, hen, hkey⟩ := keyS_at hk hki
    have od := I.kIn _ _ D.at_
    refine next_key_item st od rfl (keyS_size hk) hen fun h' st' sb => ?_
    have J : Inv X pins σ H { s with heap := h' } := I.turned (t' := s.toks) (fun b ob hb q => (sb.2 b fun z => hb (by simp [z])).trans q) F.1 F.2.1 F.2.2.2.1 F.2.2.2.2.1 F.2.2.2.2.2
    obtain ⟨oi, q, c, dd⟩ := id st'
    exact ⟨en.key, rfl, go_of (s := { s with heap := h' }) q c dd (by decide) ⟨.str k, H, J, keyS_rel hkey, ⟨rfl, k, hki, rfl⟩, st', fun b hb => (hf b hb).1⟩⟩
  done := by
    intro X hP hw hK hc i pins s σ H E I hf st hg
    subst hP hw hK
    have F := hf it (List.mem_singleton_self _)
    exact next_key_end (I.ok.hd hc) st (I.kIn _ _ D.at_) rfl (keyS_size hk) hg fun h' eb => ⟨rfl, I.turned (t' := s.toks) (fun b ob hb q => eb b ob (fun z => hb (by simp [z])) q) F.1 F.2.1 F.2.2.2.1 F.2.2.2.2.1 F.2.2.2.2.2⟩
  self := fun A i s Q E st h => wpAny_pyIter_keyiter st h
noncomputable def mWalkD (ks : List Str) : SM ItW := fun _ S => .ok (.fix (ks.map W.str)) S
theorem rit_written {K : PySem.W.Frag} {mg : Str → Option Value} {ρ : RT} {H : Hp} {ks : List Str} : RIt K mg ρ H (ks.map W.str) (Itx ks) := fun ρ' H' S' e rep i => by
  refine ⟨fun w hw => ?_, fun hi => by rw [List.length_map] at hi; exact Nat.le_of_eq hi⟩
  rw [List.getElem?_map] at hw
  cases q : ks[i]? with
  | none => rw [q] at hw; cases hw
  | some k =>
    rw [q] at hw; cases hw
    refine ⟨(List.getElem?_eq_some_iff.mp q).1, fun x H2 hy => ?_⟩
    obtain ⟨rfl, k', hk', rfl⟩ := hy
    rw [q] at hk'; cases hk'
    exact ⟨Ext.refl _ _, rep, .str _⟩
theorem pim_written {X : Cx} {E : EK} {tg : Expr} {p : Pos} {x : Str} {ks : List Str} (T : KSeqT X.K X.mg X.w x ks) (hg : Gl X x := by rfl) (hd : (x == ("__debug__" : Str)) = false := by decide +kernel) : PIM' X E tg (.Name x p) (mWalkD ks) := by
  obtain ⟨d, es, n, hm, D, hk⟩ := T
  refine ⟨fun pins s σ H R I h => ?_⟩
  obtain ⟨ρ, s', S, rep, env, o⟩ := h
  refine thn ((pe_glob (v := V.ref d) hg hm rfl hd).run pins s σ H (fun y H1 => y = .ref d ∧ H1 = H) I ⟨rfl, rfl⟩) fun u s1 ⟨y, H1, J, ry, ey, eH⟩ => ?_
  subst ey eH
  obtain rfl : u = Value.ref d := ry
  refine iter_keys D.low (J.kIn _ _ D.at_) ⟨rfl, rfl, rfl⟩ rfl (pi_one (tk := s1.toks) J _ (turn_written D hk _) ⟨_, Heap.get?_push_size _ rfl, rfl, ?_⟩ (Out.here o rep rit_written))
  rw [keyS_size hk] <;> rfl
theorem kseq_mk {K : PySem.W.Frag} {mg : Str → Option Value} {h : Heap} {x : Str} {w : World} {p : Addr} {es : Array DictEntry} {n : Nat} {ks : List Str} (X : K.In h) (G : h.Ns mainGlobals mg) (a : PySem.W.nsIn K mainGlobals x = some (some (.ref p))) (l : K.lookup p = some ⟨.type "dict", none, .dict es n, #[]⟩) (k : PySem.W.KeysLit w.params es.toList)
    (low : (p == sysModules) = false) (hk : es.toList.map (fun e => keyS e.key) = ks.map some) : KSeqT K mg w x ks := ⟨p, es, n, PySem.W.mg_of X G a, ⟨l, k, low⟩, hk⟩
end RL
end
section
set_option maxRecDepth 100000
set_option maxHeartbeats 2000000
/-! An object in an f-string; a list's least int. -/
namespace RL
open PySem PySem.Spec L2
open PyProof.Rows hiding St
variable [Lams]
/-- the class shows itself in an f-string by its own __str__ -/
noncomputable def FmtT (K : PySem.W.Frag) (mg : Str → Option Value) (c : Str) : Prop := ∀ C, mg c = some (.ref C) → PySem.W.findIn K (.ref C) "__format__" = some (some (.builtin "object.__format__")) ∧ PySem.W.mroIn K C (.type "object") = some true
noncomputable def mFmtO (c : Str) (g : Fn) (m : SM W) : SM W := fun s S => (m s S).bind fun w S1 => gOwnS c g w S1
theorem pm_fmtO {X : Cx} {E : EK} {pos : Pos} {e : Expr} {m : SM W} {c q : Str} {k k' : Nat} {st : Stmt} {ps : List Str} {g : Fn} (T : FmtT X.K X.mg c) (F : MeE X.prog X.w X.K X.mg X.base k c "__str__" q st ps g) (hr : Room k' X.A) (hk : k + 2 ≤ k') (tk : Takes X (fun c d _ H => E c d H)) (he : PM X E e m) (hn : ps.length = 1 := by rfl) :
    PM X E (.FormattedValue e (-1) none pos) (mFmtO c g m) := by
  refine ⟨fun pins s σ H Q I h => ?_⟩
  have h2 : tE X E m σ H fun x H1 => ∃ (ρ : RT) (w : W) (S : Store), RepS X.K X.mg ρ H1 S ∧ RW X.K X.mg ρ H1 w x ∧ Out X.K X.mg (RW X.K X.mg) E ρ H1 (gOwnS c g w S) Q :=
    tX.bind h fun ρ1 H1 w x s' S1 rep env r o => ⟨ρ1, w, S1, rep, r, o⟩
  refine wpAny_FormattedValue_plain (thn (he.run pins s σ H _ I h2) fun v s1 hv => ?_)
  obtain ⟨x, H1, J, rx, ρ, w, S, rep, rw', o⟩ := hv
  obtain ⟨C, f, a, ox, od, hu, at_, mc, M, run⟩ := ownS F tk hn (J.tok (s1.toks + 1)) (.cons rx .nil) rep rw' o
  cases hu
  have r0 : Room (k + 2) X.A := hr.mono hk
  have r1 : Room (k + 1) X.A.in1 := Room.in1 r0
  obtain ⟨t1, t2⟩ := T C mc
  exact PySem.W.kfo_fieldS r1.units0 J.kIn at_ t1 t2 M.at_ M.fn (run _ rfl (r1.mono (Nat.le_succ _)))
theorem fmt_mk {K : PySem.W.Frag} {mg : Str → Option Value} {h : Heap} {c : Str} {C : Addr} (X : K.In h) (G : h.Ns mainGlobals mg) (a : PySem.W.nsIn K mainGlobals c = some (some (.ref C))) (t1 : PySem.W.findIn K (.ref C) "__format__" = some (some (.builtin "object.__format__"))) (t2 : PySem.W.mroIn K C (.type "object") = some true) : FmtT K mg c := fun D hD => by
  rw [PySem.W.mg_of X G a] at hD; cases hD
  exact ⟨t1, t2⟩
/-! ### min -/
end RL
end
section
set_option maxRecDepth 100000
set_option maxHeartbeats 4000000
/-! {k: v for .. in .. if ..}: a dict that stays. -/
namespace RL
open PySem PySem.Spec L2
open PyProof.Rows hiding St
variable [Lams]
noncomputable def mDcT (g : GM) (t : SM Bool) (k v : SM W) (s0 : Env') (w : W) (acc : KW) (S : Store) : Res KW :=
  (nox (g w s0 S)).bind fun s1 S1 => (nox (t s1 S1)).bind fun b S2 => if b = true then (nox (k s1 S2)).bind fun y S3 => (nox (v s1 S3)).bind fun z S4 => match keyW y with
    | some ky => if acc.length < lim then .ok (putW acc ky z) S4 else .bad
    | none => .bad
  else .ok acc S2
noncomputable def mDcL (g : GM) (t : SM Bool) (k v : SM W) (s0 : Env') : List W → KW → Store → Res KW
  | [], acc, S => .ok acc S
  | w :: r, acc, S => (mDcT g t k v s0 w acc S).bind fun acc S => mDcL g t k v s0 r acc S
noncomputable def mDcN (g : GM) (t : SM Bool) (k v : SM W) (s0 : Env') (l : Nat → Store → Option (Option W)) : Nat → Nat → KW → Store → Res KW
  | 0, _, _, _ => .bad
  | n + 1, i, acc, S => match l i S with
    | some (some w) => (mDcT g t k v s0 w acc S).bind fun acc S => mDcN g t k v s0 l n (i + 1) acc S
    | some none => .ok acc S
    | none => .bad
noncomputable def mDcI (it : ItW) (g : GM) (t : SM Bool) (k v : SM W) (s0 : Env') (S : Store) : Res KW := match it with
  | .fix ws => mDcL g t k v s0 ws [] S
  | .gen l => mDcN g t k v s0 l turns 0 [] S
noncomputable def mDc (mi : SM ItW) (vs : List Nat) (g : GM) (t : SM Bool) (k v : SM W) : SM W := fun s S => (mi s S).bind fun it S1 => (mDcI it g t k v (wipeW s vs) S1).bind fun acc S2 => .ok (dicT acc) S2
section
variable {X : Cx} {E : EK} {pos : Pos} {tg iter kx vx : Expr} {ifs : List Expr} {scope : Scope} {own : List (Str × Nat)} {mi : SM ItW} {g : GM} {t : SM Bool} {mk mv : SM W} {vs : List Nat}
/-- one turn, the dict so far at D -/
theorem dcT_of {ρ1 ρ : RT} {H1 H : Hp} {s0 : Env'} {σ : L2.St} {D : Addr} {acc : KW} {accV : List (Key × V)} {S : Store} {w : W} {x : V} {γ δ : Type} {R' : Rl δ γ} {kk : KW → Store → Res γ} {Q : δ → Hp → Prop} {Nx : Hp → Prop}
    (rep : RepS X.K X.mg ρ H S) (hD : D ∈ ρ.t) (env : REnv X.K X.mg ρ H E s0 (wipe σ vs)) (r : RW X.K X.mg ρ H w x) (hd : H D = some (.dK accV)) (ra : RKW X.K X.mg ρ H acc accV)
    (o : Out X.K X.mg R' E ρ1 H1 ((mDcT g t mk mv s0 w acc S).bind kk) Q)
    (hN : ∀ ρ' H' acc' accV' S', (∃ H2, Ext ρ H ρ' H2 ∧ ∃ u, H' = upd H2 D u ∨ H' = H2) → RepS X.K X.mg ρ' H' S' → H' D = some (.dK accV') → RKW X.K X.mg ρ' H' acc' accV' → Out X.K X.mg R' E ρ1 H1 (kk acc' S') Q → Nx H') :
    tG X EN vs g x (wipe σ vs) H fun σ2 H2 => wipe σ2 vs = wipe σ vs ∧ tT X EN t σ2 H2 fun b H3 => if b = true then tE X EN mk σ2 H3 fun y H4 => tE X EN mv σ2 H4 fun z H5 => ∃ kvs k, y = kV k ∧ H5 D = some (.dK kvs) ∧ kvs.length < sizeLine ∧ Nx (upd H5 D (.dK (putK kvs k z))) else Nx H3 := by
  unfold mDcT at o
  rw [Res.bind_bind] at o
  refine ⟨ρ, s0, S, w, rep, env.no, r, Out.noxbind o fun ρ2 H2 s1 σ1 S2 e2 rep2 hh p2 => ⟨hh.2.trans (wipe_wipe fun _ m => m), ρ2, s1, S2, rep2, hh.1, ?_⟩⟩
  rw [Res.bind_bind] at p2
  refine Out.noxbind p2 fun ρ3 H3 b b' S3 e3 rep3 rb p3 => ?_
  cases rb
  have n2 : D ∉ ρ2.r := e2.not hd (rep.tk D hD).2
  have d2 := e2.keep _ _ hd (rep.tk D hD).2
  have n3 : D ∉ ρ3.r := e3.not d2 n2
  have d3 := e3.keep _ _ d2 n2
  have t3 := e3.sub _ (e2.sub _ hD)
  cases b with
  | false =>
    rw [if_neg Bool.false_ne_true] at p3 ⊢
    exact hN ρ3 H3 acc accV S3 ⟨H3, e2.trans e3, .dK [], .inr rfl⟩ rep3 d3 ((ra.ext e2).ext e3) p3
  | true =>
    rw [if_pos rfl] at p3 ⊢
    rw [Res.bind_bind] at p3
    refine ⟨ρ3, s1, S3, rep3, hh.1.ext e3, Out.noxbind p3 fun ρ4 H4 y y' S4 e4 rep4 r4 p4 => ⟨ρ4, s1, S4, rep4, (hh.1.ext e3).ext e4, ?_⟩⟩
    rw [Res.bind_bind] at p4
    refine Out.noxbind p4 fun ρ5 H5 z z' S5 e5 rep5 r5 p5 => ?_
    have d4 := e4.keep _ _ d3 n3
    have d5 := e5.keep _ _ d4 (e4.not d3 n3)
    have t5 := e5.sub _ (e4.sub _ t3)
    have ra5 := (((ra.ext e2).ext e3).ext e4).ext e5
    cases hk : keyW y with
    | none => rw [hk] at p5; exact p5.elim
    | some ky =>
      rw [hk] at p5
      dsimp only at p5
      split at p5
      · rename_i hz
        refine ⟨accV, ky, keyW_of r4 hk, d5, by rw [← ra.len]; exact lim_lt hz, hN ρ5 _ (putW acc ky z) (putK accV ky z') S5 ⟨H5, ((e2.trans e3).trans e4).trans e5, _, .inl rfl⟩ (rep5.flux t5) upd_same ((ra5.put r5).map fun q => q.flux t5) p5⟩
      · exact p5.elim
theorem dc_fin {ρ1 ρ : RT} {H1 H : Hp} {D : Addr} {acc : KW} {accV : List (Key × V)} {S : Store} {Q : VK} (e : Ext ρ1 H1 ρ H) (rep : RepS X.K X.mg ρ H S) (hDt : D ∈ ρ.t) (hd : H D = some (.dK accV)) (ra : RKW X.K X.mg ρ H acc accV) (rep2 : RepS X.K X.mg ⟨ρ.r, ρ1.t, ρ.ce⟩ H S) (nt : D ∉ ρ1.t)
    (o : Out X.K X.mg (RW X.K X.mg) E ρ1 H1 (.ok (dicT acc) S) Q) : Q (.ref D) H :=
  o ⟨ρ.r, ρ1.t, ρ.ce⟩ H (.ref D) ⟨e.pre, fun _ m => m, fun _ m => .inl m, e.keep, e.new, e.still, e.ce⟩ rep2 (rw_dic ⟨hd, (rep.tk D hDt).2, nt⟩ (ra.map fun q => q.less e.sub))
theorem dc_of {σ : L2.St} {H : Hp} {Q : VK} (h : tE X E (mDc mi vs g t mk mv) σ H Q) : tDc (tX X.K X.mg (RI X.K X.mg) E mi) (tG X EN vs g) (tT X EN t) (tE X EN mk) (tE X EN mv) vs σ H Q :=
  tX.bind h fun ρ1 H1 it J s S1 rep env r o => fun D hD => by
    have np := rep.fresh hD
    obtain ⟨e0, rep0⟩ := rep.more (o := .dK []) hD
    have go : ∀ {ρ ρ' : RT} {H H' : Hp}, Ext ρ1 H1 ρ H → (∃ H2, Ext ρ H ρ' H2 ∧ ∃ u, H' = upd H2 D u ∨ H' = H2) → Ext ρ1 H1 ρ' H' := fun {ρ ρ' H H'} e ⟨H2, e2, u, hu⟩ => by
      have e3 := e.trans e2
      rcases hu with hu | hu
      · subst hu
        refine ⟨e3.pre, e3.sub, e3.newt, fun b ob hb n => ?_, e3.new, fun b m hb => ?_, e3.ce⟩
        · rw [upd_ne (ne_of_none hb hD)]; exact e3.keep b ob hb n
        · by_cases z : b = D
          · rw [z, upd_same]; exact Option.some_ne_none _
          · rw [upd_ne z]; exact e3.still b m hb
      · rw [hu]; exact e3
    -- where some turns are done
    let At : (KW → Store → Res W) → Hp → Prop := fun k H' => ∃ ρ acc accV S, Ext ρ1 H1 ρ H' ∧ RepS X.K X.mg ρ H' S ∧ D ∈ ρ.t ∧ H' D = some (.dK accV) ∧ RKW X.K X.mg ρ H' acc accV ∧ Out X.K X.mg (RW X.K X.mg) E ρ1 H1 (k acc S) Q
    have step : ∀ {ρ : RT} {H2 : Hp} {acc : KW} {accV : List (Key × V)} {S : Store} {w : W} {x : V} {kk : KW → Store → Res W}, Ext ρ1 H1 ρ H2 → RepS X.K X.mg ρ H2 S → D ∈ ρ.t → H2 D = some (.dK accV) → RKW X.K X.mg ρ H2 acc accV → RW X.K X.mg ρ H2 w x →
        Out X.K X.mg (RW X.K X.mg) E ρ1 H1 ((mDcT g t mk mv (wipeW s vs) w acc S).bind kk) Q → tG X EN vs g x (wipe σ vs) H2 fun σ2 H2 => wipe σ2 vs = wipe σ vs ∧ tT X EN t σ2 H2 fun b H3 => if b = true then tE X EN mk σ2 H3 fun y H4 => tE X EN mv σ2 H4 fun z H5 => ∃ kvs k, y = kV k ∧ H5 D = some (.dK kvs) ∧ kvs.length < sizeLine ∧ At kk (upd H5 D (.dK (putK kvs k z))) else At kk H3 :=
      fun e rep2 ht hd2 ra2 r2 o2 => dcT_of rep2 ht ((env_wipe env vs).ext e) r2 hd2 ra2 o2 fun ρ3 H3 acc3 accV3 S3 hx rep3 hd3 ra3 o3 => ⟨ρ3, acc3, accV3, S3, go e hx, rep3, by obtain ⟨Hx, ex, _⟩ := hx; exact ex.sub _ ht, hd3, ra3, o3⟩
    cases it with
    | fix ws =>
      refine ⟨fun i m H' => m = ws.length - i ∧ i ≤ ws.length ∧ At (fun acc S => (mDcL g t mk mv (wipeW s vs) (ws.drop i) acc S).bind fun acc S2 => .ok (dicT acc) S2) H', ⟨_, rfl, Nat.zero_le _, ⟨ρ1.r, D :: ρ1.t, ρ1.ce⟩, [], [], S1, e0, rep0, List.mem_cons_self, upd_same, .nil, o⟩, ?_⟩
      rintro i m H' ⟨rfl, hle, ρ, acc, accV, S, e, rep', ht, hd, ra, o'⟩
      have rr := r ρ H' S e rep' i
      rcases Nat.lt_or_ge i ws.length with hlt | hge
      · obtain ⟨g1, yl⟩ := rr.1 _ (List.getElem?_eq_getElem hlt)
        rw [List.drop_eq_getElem_cons hlt] at o'
        unfold mDcL at o'
        dsimp only at o'
        rw [Res.bind_bind] at o'
        refine .inr ⟨g1, At fun acc S => (mDcL g t mk mv (wipeW s vs) (ws.drop (i + 1)) acc S).bind fun acc S2 => .ok (dicT acc) S2, fun H2 q => ⟨ws.length - (i + 1), by omega, rfl, hlt, q⟩, fun x H2 hy => ?_⟩
        obtain ⟨e2, rep2, r2⟩ := yl x H2 hy
        exact step (e.trans e2) rep2 (e2.sub _ ht) (e2.keep _ _ hd (rep'.tk D ht).2) (ra.ext e2) r2 o'
      · have hi : ws.length = i := by omega
        rw [List.drop_eq_nil_of_le hge] at o'
        dsimp only at o'
        exact .inl ⟨rr.2 hi, dc_fin e rep' ht hd ra (rep'.less e.sub) np.2 o'⟩
    | gen l =>
      refine ⟨fun i m H' => At (fun acc S => (mDcN g t mk mv (wipeW s vs) l m i acc S).bind fun acc S2 => .ok (dicT acc) S2) H', ⟨turns, ⟨ρ1.r, D :: ρ1.t, ρ1.ce⟩, [], [], S1, e0, rep0, List.mem_cons_self, upd_same, .nil, o⟩, ?_⟩
      rintro i m H' ⟨ρ, acc, accV, S, e, rep', ht, hd, ra, o'⟩
      cases m with
      | zero => exact o'.elim
      | succ m =>
        dsimp only at o'
        unfold mDcN at o'
        have rr := r ρ H' S e rep' i
        cases e1 : l i S with
        | none => rw [e1] at o'; exact o'.elim
        | some u =>
          rw [e1] at o' rr
          cases u with
          | none => exact .inl ⟨rr, dc_fin e rep' ht hd ra (rep'.less e.sub) np.2 o'⟩
          | some w =>
            dsimp only at o'
            rw [Res.bind_bind] at o'
            obtain ⟨g1, yl⟩ := rr
            refine .inr ⟨g1, At fun acc S => (mDcN g t mk mv (wipeW s vs) l m (i + 1) acc S).bind fun acc S2 => .ok (dicT acc) S2, fun H2 q => ⟨m, Nat.lt_succ_self m, q⟩, fun x H2 hy => ?_⟩
            obtain ⟨e2, rep2, r2⟩ := yl x H2 hy
            exact step (e.trans e2) rep2 (e2.sub _ ht) (e2.keep _ _ hd (rep'.tk D ht).2) (ra.ext e2) r2 o'
/-- the block's part of a dict comprehension, at every entry -/
structure BlkD (X : Cx) (scope : Scope) (tg : Expr) (ifs : List Expr) (kx vx : Expr) (vs : List Nat) (g : GM) (t : SM Bool) (mk mv : SM W) : Prop where
  g : ∀ (s : Shared) (H : Hp) (C : Addr) (cl : List (Str × Addr)) (fp : List Addr), PGM (X.blk s H scope (compEnvC scope cl C X.env) fp) EN tg vs g
  t : ∀ (s : Shared) (H : Hp) (C : Addr) (cl : List (Str × Addr)) (fp : List Addr), PTsM (X.blk s H scope (compEnvC scope cl C X.env) fp) EN ifs t
  k : ∀ (s : Shared) (H : Hp) (C : Addr) (cl : List (Str × Addr)) (fp : List Addr), PM (X.blk s H scope (compEnvC scope cl C X.env) fp) EN kx mk
  v : ∀ (s : Shared) (H : Hp) (C : Addr) (cl : List (Str × Addr)) (fp : List Addr), PM (X.blk s H scope (compEnvC scope cl C X.env) fp) EN vx mv
theorem pm_dc (hc : X.calm = true) (hN : X.N.Nodup) (hi : PIM' X E tg iter mi) (ok : blkC X.N X.env.scope scope own = true) (hb : BlkD X scope tg ifs kx vx (slots own) g t mk mv) (hs : ∀ x, foldedSetIterable iter X.env x = pure x := by intro _; rfl) :
    PM X E (.DictComp kx vx [⟨tg, iter, ifs, 0⟩] scope pos) (mDc mi (slots own) g t mk mv) :=
  pe_imp (pe_dc (g := tG X EN (slots own) g) (tt := tT X EN t) (tk := tE X EN mk) (tv := tE X EN mv) hc hN hi (blkOk_by ok) hb.g hb.t hb.k hb.v hs) fun σ H Q h => dc_of h
end
end RL
end
section
set_option maxRecDepth 100000
set_option maxHeartbeats 2000000
/-! A property's facts. -/
namespace RL
open PySem PySem.Spec L2
open PyProof.Rows hiding St
variable [Lams]
theorem prtx_mk {K : PySem.W.Frag} {mg : Str → Option Value} {h : Heap} {c f q : Str} {C p g : Addr} {st : Stmt} {ps : List Str} {rest : List Value} {oc : Value} {od an : Option Addr} {sl : Array (Option Value)} {kV dc pm cd ct : Value} (X : K.In h) (G : h.Ns mainGlobals mg)
    (a : PySem.W.nsIn K mainGlobals c = some (some (.ref C))) (T : ClsT K mg c) (at_ : PySem.W.findIn K (.ref C) f = some (some (.ref p))) (gt : PySem.W.specialIn K (.ref p) "__get__" = some (some (.builtin "property.__get__"))) (tak : PySem.W.takesIn K (.ref p) = some true)
    (rec_ : PySem.W.recIn K p "property" = some (.ref g :: rest)) (fn : PySem.W.isFn K (.ref g) = true) (l : K.lookup g = some ⟨oc, od, .func (PySem.W.fnOf f q (defArgs st) (defBody st) (defScope st) .none kV dc pm an cd ct), sl⟩) (cod : PySem.W.codeIn K cd q = true) (k : PySem.W.keepIn K (.ref g) = true)
    (hb : ∀ (kV doc pm : Value) (an : Option Addr) (cdv ct : Value) (us : List Value), us.length = ps.length → bindArgs (PySem.W.fnOf f q (defArgs st) (defBody st) (defScope st) .none kV doc pm an cdv ct) ⟨us, []⟩ = pure (ps.zip us)) : PrTx K mg c f q st ps :=
  have F := fun_mk (st := st) l cod k
  ⟨C, p, g, _, PySem.W.mg_of X G a, T.at (PySem.W.mg_of X G a), ⟨at_, gt, tak, _, rec_⟩, F, F.binds hb⟩
end RL
end
section
set_option maxRecDepth 100000
set_option maxHeartbeats 4000000
namespace LTm
open PySem PySem.Spec L2 RL LC
open PyProof.Rows hiding St
noncomputable def c_MOST_DEEP : W := .int 40
noncomputable def c_MOST_PARTS : W := .int 2000
noncomputable def c_WORDS : W := .tup ((["closed", "open", "rim"] : List Str).map W.str)
noncomputable def c_SHOWN : List (Str × Str) := [("or", "|"), ("and", "&"), ("less", "-")]
noncomputable def sh_Term_of : SS := (mSeq (mIf (mTru (mAp (gIsi (ktC "Term")) (mCons (mVar 0) (mCons (mC (.gl "Term")) mNil)))) (mRet (mAp (gMake "Term" ["node", "deep", "part_count"]) (mCons (mUn (gFld "Term" "node") (mVar 0)) (mCons (mUn (gFld "Term" "deep") (mVar 0)) (mCons (mUn (gFld "Term" "part_count") (mVar 0)) mNil))))) mSkip)
  (mSeq (mIf (mNotT (mTru (mAp G_is_name (mCons (mVar 0) mNil)))) mNever mSkip)
  (mRet (mAp (gMake "Term" ["node", "deep", "part_count"]) (mCons (mAp gTup (mCons (mC (.str "name")) (mCons (mVar 0) mNil))) (mCons (mC (.int 1)) (mCons (mC (.int 1)) mNil)))))))
noncomputable def G_Term_of : Fn := runB 1 sh_Term_of
noncomputable def sh_need_size : SS := (mSeq (mIf (mBT gGt (mVar 0) (mC c_MOST_DEEP)) mNever mSkip)
  (mIf (mBT gGt (mVar 1) (mC c_MOST_PARTS)) mNever mSkip))
noncomputable def G_need_size : Fn := runB 2 sh_need_size
noncomputable def sh_joined : SS := (mSeq (mAsg (mLc (mItems (mVar 1)) [5] (gNm 5) mYes (mAp G_Term_of (mCons (mVar 5) mNil))) (gNm 2))
  (mSeq (mPar 3 4 (mCons (mBin gAdd (mC (.int 1)) (mAp (g1 gMax) (mCons (mLc (mItems (mVar 2)) [6] (gNm 6) mYes (mUn (gFld "Term" "deep") (mVar 6))) mNil))) (mCons (mBin gAdd (mC (.int 1)) (mAp (g1 gSum) (mCons (mLc (mItems (mVar 2)) [6] (gNm 6) mYes (mUn (gFld "Term" "part_count") (mVar 6))) mNil))) mNil)))
  (mSeq (mExpr (mAp G_need_size (mCons (mVar 3) (mCons (mVar 4) mNil))))
  (mRet (mAp (gMake "Term" ["node", "deep", "part_count"]) (mCons (mAp gTup (mCons (mVar 0) (mStar (mLc (mItems (mVar 2)) [6] (gNm 6) mYes (mUn (gFld "Term" "node") (mVar 6))) mNil))) (mCons (mVar 3) (mCons (mVar 4) mNil))))))))
noncomputable def G_joined : Fn := runB 7 sh_joined
noncomputable def sh_Term___or__ : SS := (mRet (mAp (gStar 1 G_joined) (mCons (mC (.str "or")) (mCons (mVar 0) (mCons (mVar 1) mNil)))))
noncomputable def G_Term___or__ : Fn := runB 2 sh_Term___or__
noncomputable def sh_Term___ror__ : SS := (mRet (mAp (gStar 1 G_joined) (mCons (mC (.str "or")) (mCons (mVar 1) (mCons (mVar 0) mNil)))))
noncomputable def G_Term___ror__ : Fn := runB 2 sh_Term___ror__
noncomputable def sh_Term___invert__ : SS := (mRet (mAp (gStar 1 G_joined) (mCons (mC (.str "not")) (mCons (mVar 0) mNil))))
noncomputable def G_Term___invert__ : Fn := runB 1 sh_Term___invert__
noncomputable def sh_Term_closed : SS := (mRet (mAp (gStar 1 G_joined) (mCons (mC (.str "closed")) (mCons (mVar 0) mNil))))
noncomputable def G_Term_closed : Fn := runB 1 sh_Term_closed
noncomputable def sh_Term_opened : SS := (mRet (mAp (gStar 1 G_joined) (mCons (mC (.str "open")) (mCons (mVar 0) mNil))))
noncomputable def G_Term_opened : Fn := runB 1 sh_Term_opened
noncomputable def sh_Term_rim : SS := (mRet (mAp (gStar 1 G_joined) (mCons (mC (.str "rim")) (mCons (mVar 0) mNil))))
noncomputable def G_Term_rim : Fn := runB 1 sh_Term_rim
noncomputable def sh_node_text (G_node_text' : Fn) : SS := (mSeq (mAsg (mBin gIx (mVar 0) (mC (.int 0))) (gNm 1))
  (mSeq (mIf (mBT (gIn false) (mVar 1) (mAp gTup (mCons (mC (.str "all")) (mCons (mC (.str "none")) mNil)))) (mRet (mVar 1)) mSkip)
  (mSeq (mIf (mBT (gEq false) (mVar 1) (mC (.str "name"))) (mRet (mBin gIx (mVar 0) (mC (.int 1)))) mSkip)
  (mSeq (mIf (mBT (gEq false) (mVar 1) (mC (.str "not"))) (mRet (mBin gAdd (mC (.str "~")) (mAp G_node_text' (mCons (mBin gIx (mVar 0) (mC (.int 1))) mNil)))) mSkip)
  (mSeq (mIf (mBT (gIn false) (mVar 1) (mC c_WORDS)) (mRet (mJoined [(mFmt (mVar 1)), (mC (.str "(")), (mFmt (mAp G_node_text' (mCons (mBin gIx (mVar 0) (mC (.int 1))) mNil))), (mC (.str ")"))])) mSkip)
  (mRet (mJoined [(mC (.str "(")), (mFmt (mAp G_node_text' (mCons (mBin gIx (mVar 0) (mC (.int 1))) mNil))), (mC (.str " ")), (mFmt (mCDict c_SHOWN (mVar 1))), (mC (.str " ")), (mFmt (mAp G_node_text' (mCons (mBin gIx (mVar 0) (mC (.int 2))) mNil))), (mC (.str ")"))])))))))
noncomputable def G_node_text : Nat → Fn
  | 0 => fun _ _ => .bad
  | n + 1 => runB 2 (sh_node_text (G_node_text n))
noncomputable def sh_inner_nodes : SS := (mRet (mIfE (mBT (gIn false) (mBin gIx (mVar 0) (mC (.int 0))) (mAp gTup (mCons (mC (.str "all")) (mCons (mC (.str "none")) (mCons (mC (.str "name")) mNil))))) (mAp gTup mNil) (mSl (mVar 0) (mPart (mC (.int 1))) mNoPart)))
noncomputable def G_inner_nodes : Fn := runB 1 sh_inner_nodes
noncomputable def sh_Term_text : SS := (mRet (mAp (G_node_text 24) (mCons (mUn (gFld "Term" "node") (mVar 0)) mNil)))
noncomputable def G_Term_text : Fn := runB 1 sh_Term_text
noncomputable def sh__law_leaf : SS := (mSeq (mIf (mOrT (mBT (gEq false) (mVar 1) (mAp gLst mNil)) (mBT (gEq false) (mAp G__law_draw (mCons (mVar 0) (mCons (mC (.int 8)) mNil))) (mC (.int 0)))) (mRet (mAp G__law_one (mCons (mVar 0) (mCons (mAp gLst (mCons (mAp gTup (mCons (mC (.str "all")) mNil)) (mCons (mAp gTup (mCons (mC (.str "none")) mNil)) mNil))) mNil)))) mSkip)
  (mRet (mAp gTup (mCons (mC (.str "name")) (mCons (mAp G__law_one (mCons (mVar 0) (mCons (mVar 1) mNil))) mNil)))))
noncomputable def G__law_leaf : Fn := runB 2 sh__law_leaf
noncomputable def sh__law_form (G__law_form' : Fn) : SS := (mSeq (mAsg (mAp G__law_draw (mCons (mVar 0) (mCons (mC (.int 9)) mNil))) (gNm 3))
  (mSeq (mIf (mOrT (mBT gLt (mVar 2) (mC (.int 2))) (mBT (gEq false) (mVar 3) (mC (.int 0)))) (mRet (mAp G__law_leaf (mCons (mVar 0) (mCons (mVar 1) mNil)))) mSkip)
  (mSeq (mAsg (mAp G__law_form' (mCons (mVar 0) (mCons (mVar 1) (mCons (mBin gSub (mVar 2) (mC (.int 1))) mNil)))) (gNm 4))
  (mSeq (mIf (mBT gLt (mVar 3) (mC (.int 5))) (mRet (mAp gTup (mCons (mBin gIx (mAp gLst (mCons (mC (.str "not")) (mCons (mC (.str "closed")) (mCons (mC (.str "open")) (mCons (mC (.str "rim")) mNil))))) (mBin gSub (mVar 3) (mC (.int 1)))) (mCons (mVar 4) mNil)))) mSkip)
  (mRet (mAp gTup (mCons (mBin gIx (mAp gLst (mCons (mC (.str "or")) (mCons (mC (.str "and")) (mCons (mC (.str "less")) (mCons (mC (.str "and")) mNil))))) (mBin gSub (mVar 3) (mC (.int 5)))) (mCons (mVar 4) (mCons (mAp G__law_form' (mCons (mVar 0) (mCons (mVar 1) (mCons (mBin gSub (mVar 2) (mC (.int 1))) mNil)))) mNil)))))))))
noncomputable def G__law_form : Nat → Fn
  | 0 => fun _ _ => .bad
  | n + 1 => runB 5 (sh__law_form (G__law_form n))
noncomputable def sh__law_text (G__law_text' : Fn) : SS := (mSeq (mIf (mBT (gIn false) (mBin gIx (mVar 0) (mC (.int 0))) (mAp gTup (mCons (mC (.str "all")) (mCons (mC (.str "none")) mNil)))) (mRet (mBin gIx (mVar 0) (mC (.int 0)))) mSkip)
  (mSeq (mIf (mBT (gEq false) (mBin gIx (mVar 0) (mC (.int 0))) (mC (.str "name"))) (mRet (mBin gIx (mVar 0) (mC (.int 1)))) mSkip)
  (mSeq (mIf (mBT (gEq false) (mBin gIx (mVar 0) (mC (.int 0))) (mC (.str "not"))) (mRet (mBin gAdd (mC (.str "~")) (mAp G__law_text' (mCons (mBin gIx (mVar 0) (mC (.int 1))) mNil)))) mSkip)
  (mSeq (mIf (mBT (gIn false) (mBin gIx (mVar 0) (mC (.int 0))) (mAp gTup (mCons (mC (.str "closed")) (mCons (mC (.str "open")) (mCons (mC (.str "rim")) mNil))))) (mRet (mBin gAdd (mBin gAdd (mBin gAdd (mBin gIx (mVar 0) (mC (.int 0))) (mC (.str "("))) (mAp G__law_text' (mCons (mBin gIx (mVar 0) (mC (.int 1))) mNil))) (mC (.str ")")))) mSkip)
  (mRet (mBin gAdd (mBin gAdd (mBin gAdd (mBin gAdd (mC (.str "(")) (mAp G__law_text' (mCons (mBin gIx (mVar 0) (mC (.int 1))) mNil))) (mBin gDGet (mDisp (mPCons (mC (.str "or")) (mC (.str " | ")) (mPCons (mC (.str "and")) (mC (.str " & ")) (mPCons (mC (.str "less")) (mC (.str " - ")) mPNil)))) (mBin gIx (mVar 0) (mC (.int 0))))) (mAp G__law_text' (mCons (mBin gIx (mVar 0) (mC (.int 2))) mNil))) (mC (.str ")"))))))))
noncomputable def G__law_text : Nat → Fn
  | 0 => fun _ _ => .bad
  | n + 1 => runB 1 (sh__law_text (G__law_text n))
noncomputable def sh_Term_whole : SS := (mRet (mAp (gMake "Term" ["node", "deep", "part_count"]) (mCons (mAp gTup (mCons (mC (.str "all")) mNil)) (mCons (mC (.int 1)) (mCons (mC (.int 1)) mNil)))))
noncomputable def G_Term_whole : Fn := runB 0 sh_Term_whole
noncomputable def sh_Term_nothing : SS := (mRet (mAp (gMake "Term" ["node", "deep", "part_count"]) (mCons (mAp gTup (mCons (mC (.str "none")) mNil)) (mCons (mC (.int 1)) (mCons (mC (.int 1)) mNil)))))
noncomputable def G_Term_nothing : Fn := runB 0 sh_Term_nothing
noncomputable def sh_Term___and__ : SS := (mRet (mAp (gStar 1 G_joined) (mCons (mC (.str "and")) (mCons (mVar 0) (mCons (mVar 1) mNil)))))
noncomputable def G_Term___and__ : Fn := runB 2 sh_Term___and__
noncomputable def sh_Term___rand__ : SS := (mRet (mAp (gStar 1 G_joined) (mCons (mC (.str "and")) (mCons (mVar 1) (mCons (mVar 0) mNil)))))
noncomputable def G_Term___rand__ : Fn := runB 2 sh_Term___rand__
noncomputable def sh_Term___sub__ : SS := (mRet (mAp (gStar 1 G_joined) (mCons (mC (.str "less")) (mCons (mVar 0) (mCons (mVar 1) mNil)))))
noncomputable def G_Term___sub__ : Fn := runB 2 sh_Term___sub__
noncomputable def sh_Term___rsub__ : SS := (mRet (mAp (gStar 1 G_joined) (mCons (mC (.str "less")) (mCons (mVar 1) (mCons (mVar 0) mNil)))))
noncomputable def G_Term___rsub__ : Fn := runB 2 sh_Term___rsub__
noncomputable def sh__law_term (G__law_term' : Fn) : SS := (mSeq (mIf (mBT (gIn false) (mBin gIx (mVar 0) (mC (.int 0))) (mAp gTup (mCons (mC (.str "all")) (mCons (mC (.str "none")) mNil)))) (mRet (mIfE (mBT (gEq false) (mBin gIx (mVar 0) (mC (.int 0))) (mC (.str "all"))) (mAp G_Term_whole mNil) (mAp G_Term_nothing mNil))) mSkip)
  (mSeq (mIf (mBT (gEq false) (mBin gIx (mVar 0) (mC (.int 0))) (mC (.str "name"))) (mRet (mAp G_Term_of (mCons (mBin gIx (mVar 0) (mC (.int 1))) mNil))) mSkip)
  (mSeq (mAsg (mAp G__law_term' (mCons (mBin gIx (mVar 0) (mC (.int 1))) mNil)) (gNm 1))
  (mSeq (mIf (mBT (gIn false) (mBin gIx (mVar 0) (mC (.int 0))) (mAp gTup (mCons (mC (.str "closed")) (mCons (mC (.str "open")) mNil)))) (mRet (mIfE (mBT (gEq false) (mBin gIx (mVar 0) (mC (.int 0))) (mC (.str "closed"))) (mMeth "Term" "closed" G_Term_closed (mVar 1) mNil) (mMeth "Term" "opened" G_Term_opened (mVar 1) mNil))) mSkip)
  (mSeq (mIf (mBT (gIn false) (mBin gIx (mVar 0) (mC (.int 0))) (mAp gTup (mCons (mC (.str "not")) (mCons (mC (.str "rim")) mNil)))) (mRet (mIfE (mBT (gEq false) (mBin gIx (mVar 0) (mC (.int 0))) (mC (.str "not"))) (mUn (gInv "Term" G_Term___invert__) (mVar 1)) (mMeth "Term" "rim" G_Term_rim (mVar 1) mNil))) mSkip)
  (mSeq (mAsg (mAp G__law_term' (mCons (mBin gIx (mVar 0) (mC (.int 2))) mNil)) (gNm 2))
  (mRet (mIfE (mBT (gEq false) (mBin gIx (mVar 0) (mC (.int 0))) (mC (.str "or"))) (mBin (gOwn "Term" (fun _ _ _ => .bad) G_Term___or__ G_Term___ror__) (mVar 1) (mVar 2)) (mIfE (mBT (gEq false) (mBin gIx (mVar 0) (mC (.int 0))) (mC (.str "and"))) (mBin (gOwn "Term" (fun _ _ _ => .bad) G_Term___and__ G_Term___rand__) (mVar 1) (mVar 2)) (mBin (gOwn "Term" gSub G_Term___sub__ G_Term___rsub__) (mVar 1) (mVar 2)))))))))))
noncomputable def G__law_term : Nat → Fn
  | 0 => fun _ _ => .bad
  | n + 1 => runB 3 (sh__law_term (G__law_term n))
/-! ### the words -/
inductive Wd where
  | all | none | name | not | closed | opn | rim | or | and | less
  deriving DecidableEq
noncomputable def Wd.s : Wd → Str
  | .all => "all" | .none => "none" | .name => "name" | .not => "not" | .closed => "closed" | .opn => "open" | .rim => "rim" | .or => "or" | .and => "and" | .less => "less"
noncomputable def Wd.c : Wd → List Nat
  | .all => [97, 108, 108] | .none => [110, 111, 110, 101] | .name => [110, 97, 109, 101] | .not => [110, 111, 116] | .closed => [99, 108, 111, 115, 101, 100] | .opn => [111, 112, 101, 110] | .rim => [114, 105, 109] | .or => [111, 114] | .and => [97, 110, 100] | .less => [108, 101, 115, 115]
theorem s_tx (a : Wd) : a.s = tx a.c := by cases a <;> exact lit_eq (by decide +kernel)
theorem c_inj {a b : Wd} (h : a.c = b.c) : a = b := by cases a <;> cases b <;> first | rfl | (revert h; decide)
@[simp] theorem s_inj {a b : Wd} : (a.s = b.s) ↔ a = b := ⟨fun h => c_inj (by rw [s_tx, s_tx, tx_inj] at h; exact h), fun h => by rw [h]⟩
@[simp] theorem s_beq {a b : Wd} : (a.s == b.s) = decide (a = b) := by rw [Bool.eq_iff_iff, beq_iff_eq, s_inj, decide_eq_true_eq]
@[simp] theorem l_all : (Str.ofString "all") = Wd.all.s := rfl
@[simp] theorem l_none : (Str.ofString "none") = Wd.none.s := rfl
@[simp] theorem l_name : (Str.ofString "name") = Wd.name.s := rfl
@[simp] theorem l_not : (Str.ofString "not") = Wd.not.s := rfl
@[simp] theorem l_closed : (Str.ofString "closed") = Wd.closed.s := rfl
@[simp] theorem l_open : (Str.ofString "open") = Wd.opn.s := rfl
@[simp] theorem l_rim : (Str.ofString "rim") = Wd.rim.s := rfl
@[simp] theorem l_or : (Str.ofString "or") = Wd.or.s := rfl
@[simp] theorem l_and : (Str.ofString "and") = Wd.and.s := rfl
@[simp] theorem l_less : (Str.ofString "less") = Wd.less.s := rfl
@[simp] theorem s_len {a : Wd} : a.s.length = a.c.length := by rw [s_tx, tx_len]
/-- a word in a row of words -/
theorem in_wd {neg : Bool} {a : Wd} {S : Store} (l : List Wd) : gIn neg (.str a.s) (.tup (l.map fun b => .str b.s)) S = .ok (.bl (xorB neg (decide (a ∈ l)))) S := by
  have := gIn_strs (n := neg) (x := a.s) (S := S) (w := .tup (l.map fun b => .str b.s)) (ys := l.map Wd.s) (by simp [tupL])
  rw [this]
  have e : decide (a.s ∈ l.map Wd.s) = decide (a ∈ l) := by
    rw [decide_eq_decide, List.mem_map]
    exact ⟨fun ⟨b, hb, e⟩ => by rw [← s_inj.mp e]; exact hb, fun hb => ⟨a, hb, rfl⟩⟩
  rw [e]
section
variable {neg : Bool} {a b c d e f : Wd} {S : Store}
@[simp] theorem in_wd2 : gIn neg (.str a.s) (.tup [.str b.s, .str c.s]) S = .ok (.bl (xorB neg (decide (a ∈ [b, c])))) S := in_wd [b, c]
@[simp] theorem in_wd3 : gIn neg (.str a.s) (.tup [.str b.s, .str c.s, .str d.s]) S = .ok (.bl (xorB neg (decide (a ∈ [b, c, d])))) S := in_wd [b, c, d]
@[simp] theorem in_wd5 {g : Wd} : gIn neg (.str a.s) (.tup [.str b.s, .str c.s, .str d.s, .str e.s, .str g.s]) S = .ok (.bl (xorB neg (decide (a ∈ [b, c, d, e, g])))) S := in_wd [b, c, d, e, g]
theorem words_eq : c_WORDS = .tup [.str Wd.closed.s, .str Wd.opn.s, .str Wd.rim.s] := rfl
end
/-! ### forms -/
inductive U where
  | not | closed | opn | rim
inductive B where
  | or | and | less
noncomputable def U.w : U → Wd
  | .not => .not | .closed => .closed | .opn => .opn | .rim => .rim
noncomputable def B.w : B → Wd
  | .or => .or | .and => .and | .less => .less
noncomputable def B.sign : B → Nat
  | .or => 124 | .and => 38 | .less => 45
inductive Form where
  | all | none
  | name (x : List Nat)
  | un (u : U) (f : Form)
  | bin (b : B) (f g : Form)
noncomputable def toW : Form → W
  | .all => .tup [.str Wd.all.s]
  | .none => .tup [.str Wd.none.s]
  | .name x => .tup [.str Wd.name.s, .str (tx x)]
  | .un u f => .tup [.str u.w.s, toW f]
  | .bin b f g => .tup [.str b.w.s, toW f, toW g]
/-- how deep -/
noncomputable def dep : Form → Nat
  | .un _ f => dep f + 1
  | .bin _ f g => max (dep f) (dep g) + 1
  | _ => 1
/-- within -/
inductive Sub : Form → Form → Prop where
  | self {f : Form} : Sub f f
  | un {g f : Form} {u : U} (h : Sub g f) : Sub g (.un u f)
  | left {k f g : Form} {b : B} (h : Sub k f) : Sub k (.bin b f g)
  | right {k f g : Form} {b : B} (h : Sub k g) : Sub k (.bin b f g)
noncomputable def prt : Form → Nat
  | .un _ f => prt f + 1
  | .bin _ f g => prt f + prt g + 1
  | _ => 1
noncomputable def txt : Form → List Nat
  | .all => Wd.all.c
  | .none => Wd.none.c
  | .name x => x
  | .un .not f => 126 :: txt f
  | .un u f => u.w.c ++ 40 :: (txt f ++ [41])
  | .bin b f g => 40 :: (txt f ++ 32 :: b.sign :: 32 :: (txt g ++ [41]))
theorem dep_pos (f : Form) : 1 ≤ dep f := by cases f <;> simp [dep]
@[simp] theorem tx_c {a : Wd} : tx a.c = a.s := (s_tx a).symm
@[simp] theorem s_cat {a : Wd} {l : List Nat} : a.s ++ tx l = tx (a.c ++ l) := by rw [s_tx, tx_cat]
@[simp] theorem cat_s {a : Wd} {l : List Nat} : tx l ++ a.s = tx (l ++ a.c) := by rw [s_tx, tx_cat]
@[simp] theorem l_til : (Str.ofString "~") = tx [126] := lit_eq (by decide +kernel)
@[simp] theorem l_par : (Str.ofString "(") = tx [40] := lit_eq (by decide +kernel)
@[simp] theorem l_rap : (Str.ofString ")") = tx [41] := lit_eq (by decide +kernel)
@[simp] theorem l_spc : (Str.ofString " ") = tx [32] := lit_eq (by decide +kernel)
@[simp] theorem l_bar : (Str.ofString "|") = tx [124] := lit_eq (by decide +kernel)
@[simp] theorem l_amp : (Str.ofString "&") = tx [38] := lit_eq (by decide +kernel)
@[simp] theorem l_dash : (Str.ofString "-") = tx [45] := lit_eq (by decide +kernel)
@[simp] theorem l_bar3 : (Str.ofString " | ") = tx [32, 124, 32] := lit_eq (by decide +kernel)
@[simp] theorem l_amp3 : (Str.ofString " & ") = tx [32, 38, 32] := lit_eq (by decide +kernel)
@[simp] theorem l_dash3 : (Str.ofString " - ") = tx [32, 45, 32] := lit_eq (by decide +kernel)
theorem txt_b (b : B) (f g : Form) : txt (.bin b f g) = 40 :: (txt f ++ 32 :: b.sign :: 32 :: (txt g ++ [41])) := rfl
section
variable {S : Store}
theorem node_text_ok : ∀ (f : Form) (n : Nat), dep f ≤ n → (txt f).length ≤ lim → G_node_text n [toW f] S = .ok (.str (tx (txt f))) S
  | f, 0, hd, _ => by have := dep_pos f; omega
  | .all, n + 1, _, hl => by simp [G_node_text, runB_eq, sh_node_text, startW, toW, txt]
  | .none, n + 1, _, hl => by simp [G_node_text, runB_eq, sh_node_text, startW, toW, txt]
  | .name x, n + 1, _, hl => by simp [G_node_text, runB_eq, sh_node_text, startW, toW, txt]
  | .un u f, n + 1, hd, hl => by
    have ih := node_text_ok f n (by simp [dep] at hd; omega) (by cases u <;> simp [txt] at hl <;> omega)
    have hlim : lim = 16777216 := rfl
    cases u <;> simp [G_node_text, runB_eq, sh_node_text, startW, toW, txt, U.w, ih, words_eq, Wd.c] at hl ⊢
    all_goals (repeat (first | rw [if_pos (by omega)] | simp))
  | .bin b f g, n + 1, hd, hl => by
    have hlim : lim = 16777216 := rfl
    rw [txt_b] at hl
    simp at hl
    have ih := node_text_ok f n (by simp [dep] at hd; omega) (by omega)
    have ih' := node_text_ok g n (by simp [dep] at hd; omega) (by omega)
    cases b <;> simp [G_node_text, runB_eq, sh_node_text, startW, toW, txt, B.w, B.sign, ih, ih', words_eq, c_SHOWN, List.lookup] at hl ⊢
    all_goals (repeat (first | rw [if_pos (by omega)] | simp [ih']))
/-! ### cores -/
noncomputable def inv : Form → Form
  | .un .not f => f
  | f => .un .not f
noncomputable def kids : Form → List Form
  | .un _ f => [f]
  | .bin _ f g => [f, g]
  | _ => []
theorem inner_ok (f : Form) : G_inner_nodes [toW f] S = .ok (.tup ((kids f).map toW)) S := by
  cases f with
  | un u f => cases u <;> simp [G_inner_nodes, runB_eq, sh_inner_nodes, startW, toW, kids, U.w, cutW, HT.sIx]
  | bin b f g => cases b <;> simp [G_inner_nodes, runB_eq, sh_inner_nodes, startW, toW, kids, B.w, cutW, HT.sIx]
  | _ => simp [G_inner_nodes, runB_eq, sh_inner_nodes, startW, toW, kids]
/-! ### terms -/
noncomputable def termW (f : Form) : W := .ins "Term" ["node", "deep", "part_count"] [toW f, .int (dep f), .int (prt f)]
/-- small enough -/
noncomputable def Fits (f : Form) : Prop := dep f ≤ 40 ∧ prt f ≤ 2000
theorem ne1 : (Str.ofString "deep" == Str.ofString "node") = false := by decide +kernel
theorem ne2 : (Str.ofString "part_count" == Str.ofString "node") = false := by decide +kernel
theorem ne3 : (Str.ofString "part_count" == Str.ofString "deep") = false := by decide +kernel
@[simp] theorem fld_node {f : Form} : gFld "Term" "node" (termW f) S = .ok (toW f) S := by
  simp [termW, List.lookup]
@[simp] theorem fld_deep {f : Form} : gFld "Term" "deep" (termW f) S = .ok (.int (dep f)) S := by
  simp [termW, List.lookup, ne1]
@[simp] theorem fld_prt {f : Form} : gFld "Term" "part_count" (termW f) S = .ok (.int (prt f)) S := by
  simp [termW, List.lookup, ne2, ne3]
@[simp] theorem isIns_term {f : Form} : isIns "Term" (termW f) = true := by simp [termW]
@[simp] theorem isStr_term {f : Form} : isStr (termW f) = false := rfl
theorem methK_term {f : Form} {m : Str} {g : Fn} {mr : SM (List W)} {s : Env'} (h : (["node", "deep", "part_count"] : List Str).contains m = false) : methK "Term" m g mr s (termW f) S = (mr s S).bind fun us S2 => g (termW f :: us) S2 := by
  unfold termW
  rw [methK_ins, if_pos ⟨rfl, h⟩]
theorem make_term {f : Form} : gMake "Term" ["node", "deep", "part_count"] [toW f, .int (dep f), .int (prt f)] S = .ok (termW f) S := by simp [termW]
theorem isi_term (f : Form) : gIsi (ktC "Term") [termW f, .gl "Term"] S = .ok (.bl true) S := by
  simp [gIsi, gIsi1, termW, tyOf, isCls, ktC]
theorem isi_str' (x : Str) : gIsi (ktC "Term") [.str x, .gl "Term"] S = .ok (.bl false) S := by
  simp [gIsi, gIsi1, tyOf, isCls, ktC]
theorem of_term (f : Form) : G_Term_of [termW f] S = .ok (termW f) S := by
  have h := isi_term (S := S) f
  simp [-gMake_eq, G_Term_of, runB_eq, sh_Term_of, startW, h, truW, make_term]
theorem of_name {x : List Nat} (h : nameL x = true) (h6 : x.length ≤ lim) : G_Term_of [.str (tx x)] S = .ok (termW (.name x)) S := by
  have h1 := isi_str' (S := S) (tx x)
  have h2 := is_name_tx (S := S) h6
  rw [h] at h2
  simp [G_Term_of, runB_eq, sh_Term_of, startW, h1, h2, truW, termW, toW, dep, prt]
theorem whole_ok : G_Term_whole [] S = .ok (termW .all) S := by
  simp [G_Term_whole, runB_eq, sh_Term_whole, startW, termW, toW, dep, prt]
theorem nothing_ok : G_Term_nothing [] S = .ok (termW .none) S := by
  simp [G_Term_nothing, runB_eq, sh_Term_nothing, startW, termW, toW, dep, prt]
theorem need_ok {i j : Int} (hi : i ≤ 40) (hj : j ≤ 2000) : G_need_size [.int i, .int j] S = .ok .non S := by
  have h1 : ¬ 40 < i := by omega
  have h2 : ¬ 2000 < j := by omega
  simp [G_need_size, runB_eq, sh_need_size, startW, c_MOST_DEEP, c_MOST_PARTS, h1, h2]
theorem joined1 (u : U) (f : Form) (hd : dep f + 1 ≤ 40) (hp : prt f + 1 ≤ 2000) : G_joined [.str u.w.s, .tup [termW f]] S = .ok (termW (.un u f)) S := by
  have h0 := of_term (S := S) f
  have hn := need_ok (S := S) (i := 1 + (dep f : Int)) (j := 1 + (prt f : Int)) (by omega) (by omega)
  have hz : (0 : Nat) < lim := by decide
  have e1 : (1 + (dep f : Int)) = ((dep (.un u f) : Nat) : Int) := by simp [dep]; omega
  have e2 : (1 + (prt f : Int)) = ((prt (.un u f) : Nat) : Int) := by simp [prt]; omega
  have e3 : W.tup [.str u.w.s, toW f] = toW (.un u f) := rfl
  rw [e1, e2] at hn
  simp [-gMake_eq, G_joined, runB_eq, sh_joined, startW, h0, wipeW, hz, gMax, gSum, intsW, e1, e2, hn, e3, make_term]
/-- what may stand as an operand: a term, or a name -/
inductive Opd : Form → W → Prop where
  | term (f : Form) : Opd f (termW f)
  | name {x : List Nat} (h : nameL x = true) (h6 : x.length ≤ lim) : Opd (.name x) (.str (tx x))
theorem Opd.of {f : Form} {w : W} (h : Opd f w) : G_Term_of [w] S = .ok (termW f) S := by
  cases h with
  | term => exact of_term f
  | name h h6 => exact of_name h h6
theorem joined2 (b : B) (f g : Form) {w1 w2 : W} (o1 : Opd f w1) (o2 : Opd g w2) (hd : dep (.bin b f g) ≤ 40) (hp : prt (.bin b f g) ≤ 2000) : G_joined [.str b.w.s, .tup [w1, w2]] S = .ok (termW (.bin b f g)) S := by
  have h0 := o1.of (S := S)
  have h1 := o2.of (S := S)
  have hn := need_ok (S := S) (i := (dep (.bin b f g) : Int)) (j := (prt (.bin b f g) : Int)) (by omega) (by omega)
  have hz : (0 : Nat) < lim := by decide
  have hz1 : (1 : Nat) < lim := by decide
  have e1 : (1 + max (dep f : Int) (dep g : Int)) = ((dep (.bin b f g) : Nat) : Int) := by simp [dep]; omega
  have e2 : (1 + ((prt f : Int) + (prt g : Int))) = ((prt (.bin b f g) : Nat) : Int) := by simp [prt]; omega
  have e3 : W.tup [.str b.w.s, toW f, toW g] = toW (.bin b f g) := rfl
  simp [-gMake_eq, G_joined, runB_eq, sh_joined, startW, h0, h1, wipeW, hz, hz1, gMax, gSum, intsW, e1, e2, hn, e3, make_term]
noncomputable def opG : B → Fn
  | .or => G_Term___or__ | .and => G_Term___and__ | .less => G_Term___sub__
noncomputable def opR : B → Fn
  | .or => G_Term___ror__ | .and => G_Term___rand__ | .less => G_Term___rsub__
theorem text_ok {f : Form} (hd : dep f ≤ 24) (hl : (txt f).length ≤ lim) : G_Term_text [termW f] S = .ok (.str (tx (txt f))) S := by
  simp [G_Term_text, runB_eq, sh_Term_text, startW, node_text_ok f 24 hd hl]
/-! ### the law's own -/
@[simp] theorem keyW_s {a : Wd} : keyW (.str a.s) = some (.inr a.s) := rfl
theorem disp_b (b : B) : (match gDisp [(.str Wd.or.s, .str (tx [32, 124, 32])), (.str Wd.and.s, .str (tx [32, 38, 32])), (.str Wd.less.s, .str (tx [32, 45, 32]))] S with
    | .ok d _ => gDGet d (.str b.w.s) S
    | _ => .bad) = .ok (.str (tx [32, b.sign, 32])) S := by
  cases b <;> simp [gDisp, kwsOf, gDGet, mergeW, putW, valW, B.w, B.sign]
theorem disp_ex : ∃ d, gDisp [(.str Wd.or.s, .str (tx [32, 124, 32])), (.str Wd.and.s, .str (tx [32, 38, 32])), (.str Wd.less.s, .str (tx [32, 45, 32]))] S = .ok d S ∧ ∀ b : B, gDGet d (.str b.w.s) S = .ok (.str (tx [32, b.sign, 32])) S := by
  have h := disp_b (S := S)
  cases e : gDisp [(.str Wd.or.s, .str (tx [32, 124, 32])), (.str Wd.and.s, .str (tx [32, 38, 32])), (.str Wd.less.s, .str (tx [32, 45, 32]))] S with
  | ok d T =>
    rw [e] at h
    have : T = S := by
      simp [gDisp, kwsOf] at e
      exact e.2.symm
    subst this
    exact ⟨d, rfl, h⟩
  | exc c ns ws T => rw [e] at h; have := h .or; cases this
  | bad => rw [e] at h; have := h .or; cases this
theorem law_text_ok : ∀ (f : Form) (n : Nat), dep f ≤ n → (txt f).length ≤ lim → G__law_text n [toW f] S = .ok (.str (tx (txt f))) S
  | f, 0, hd, _ => by have := dep_pos f; omega
  | .all, n + 1, _, hl => by simp [G__law_text, runB_eq, sh__law_text, startW, toW, txt]
  | .none, n + 1, _, hl => by simp [G__law_text, runB_eq, sh__law_text, startW, toW, txt]
  | .name x, n + 1, _, hl => by simp [G__law_text, runB_eq, sh__law_text, startW, toW, txt]
  | .un u f, n + 1, hd, hl => by
    have ih := law_text_ok f n (by simp [dep] at hd; omega) (by cases u <;> simp [txt] at hl <;> omega)
    have hlim : lim = 16777216 := rfl
    cases u <;> simp [G__law_text, runB_eq, sh__law_text, startW, toW, txt, U.w, ih, Wd.c] at hl ⊢
    all_goals (repeat (first | rw [if_pos (by omega)] | simp))
  | .bin b f g, n + 1, hd, hl => by
    have hlim : lim = 16777216 := rfl
    rw [txt_b] at hl
    simp at hl
    have ih := law_text_ok f n (by simp [dep] at hd; omega) (by omega)
    have ih' := law_text_ok g n (by simp [dep] at hd; omega) (by omega)
    obtain ⟨d, hd1, hd2⟩ := disp_ex (S := S)
    have hb := hd2 b
    cases b <;> simp [B.w] at hb <;> simp [G__law_text, runB_eq, sh__law_text, startW, toW, txt, B.w, B.sign, ih, ih', hd1, hb] at hl ⊢
    all_goals (repeat (first | rw [if_pos (by omega)] | simp [ih', hd1, hb, B.sign]))
end
end LTm
end
section
set_option maxRecDepth 100000
set_option maxHeartbeats 4000000
namespace LTm
open PySem PySem.Spec L2 RL LC
open PyProof.Rows hiding St
section
variable {S : Store} {l : Nat} {b : Bag}
theorem toDs_strs : ∀ ns : List (List Nat), toDs (ns.map fun a => W.str (tx a)) = some (ns.map fun a => PyData.str (tx a))
  | [] => rfl
  | a :: r => by simp [toDs, toD, toDs_strs r]
theorem strOk_name {a : List Nat} (h : nameL a = true) : PyData.strOk (tx a) = true := by
  have hl : ∀ c, c ∈ lettersL → c < 0x110000 := by decide +kernel
  simp only [nameL, Bool.and_eq_true, List.all_eq_true, decide_eq_true_eq] at h
  unfold PyData.strOk
  rw [Array.all_eq_true']
  intro c hc
  have : c ∈ a := by simpa [tx] using hc
  exact decide_eq_true (hl c (h.2 c this))
theorem can_strs : ∀ ns : List (List Nat), (∀ x ∈ ns, nameL x = true) → PyData.canLayAll0 (ns.map fun a => PyData.str (tx a)) = true ∧ PyData.depthAll (ns.map fun a => PyData.str (tx a)) = 0
  | [], _ => ⟨rfl, rfl⟩
  | a :: r, h => by
    have := can_strs r fun x m => h x (List.mem_cons_of_mem _ m)
    simp [PyData.canLayAll0, PyData.depthAll, PyData.canLay0, PyData.depth, this.1, this.2, strOk_name (h a List.mem_cons_self)]
theorem shaped_strs (ns : List (List Nat)) (h : ∀ x ∈ ns, nameL x = true) : SeqAt.shaped (.list (ns.map fun a => PyData.str (tx a))) = true := by
  have := can_strs ns h
  simp [SeqAt.shaped, PyData.canLay0, PyData.depth, this.1, this.2]
theorem eq_nil {a : List Nat} {r : List (List Nat)} (h : ∀ x ∈ a :: r, nameL x = true) : gEq false (.lst ((a :: r).map fun a => W.str (tx a))) (.lst []) S = .ok (.bl false) S := by
  rw [gEq_deep ⟨fun _ _ z => (by cases z), fun _ _ z => (by cases z), fun _ _ z => (by cases z)⟩]
  have e1 : toDT S (.lst ((a :: r).map fun a => W.str (tx a))) = some (.list ((a :: r).map fun a => PyData.str (tx a))) := by
    show (toDs _).map _ = _
    rw [toDs_strs]; rfl
  have e2 : toDT S (.lst []) = some (.list []) := rfl
  rw [e1, e2]
  dsimp only
  rw [if_pos ⟨shaped_strs _ h, by decide⟩]
  simp [PyData.eqv, PyData.eqvAll]
/-- a leaf: all, none, or one of the names -/
theorem ev_leaf {Q : W → Store → Prop} {nms : List (List Nat)} (hne : nms ≠ []) (hnm : ∀ x ∈ nms, nameL x = true) (hsz : nms.length < 1073741824) (h : S[l]? = some b.ob) (hb : b.Ok) (k : ∀ f b', dep f = 1 → (∀ x, Sub (.name x) f → x ∈ nms) → prt f = 1 → Bag.Ok b' → Q (toW f) (S.set l b'.ob)) :
    Ev (G__law_leaf [.ref l, .lst (nms.map fun a => .str (tx a))] S) Q := by
  have hl := get_len h
  have get : ∀ b', (S.set l (Bag.ob b'))[l]? = some b'.ob := fun b' => List.getElem?_set_self hl
  cases nms with
  | nil => exact absurd rfl hne
  | cons a r =>
    have e0 : ∀ T, gEq false (.lst ((a :: r).map fun a => W.str (tx a))) (.lst []) T = .ok (.bl false) T := fun T => eq_nil hnm
    generalize hw : (W.lst ((a :: r).map fun a => W.str (tx a))) = w at e0 ⊢
    simp [G__law_leaf, runB_eq, sh__law_leaf, startW, e0]
    refine ev_draw h hb (by decide) (by decide) fun i b1 hi hb1 => ?_
    by_cases hz : (i : Int) = 0
    · simp [hz]
      refine ev_one (ws := [toW .all, toW .none]) (.inl rfl) (get b1) hb1 (by simp) (by decide) fun u b2 hu hb2 => ?_
      rw [List.set_set]
      simp at hu
      rcases hu with rfl | rfl
      · exact k .all b2 rfl (fun x h => by cases h) rfl hb2
      · exact k .none b2 rfl (fun x h => by cases h) rfl hb2
    · have hz' : i ≠ 0 := by omega
      simp [hz']
      subst hw
      refine ev_one (ws := (a :: r).map fun a => W.str (tx a)) (.inl rfl) (get b1) hb1 (by simp) (by rw [List.length_map]; exact hsz) fun u b2 hu hb2 => ?_
      rw [List.set_set]
      obtain ⟨x, hx, rfl⟩ := List.mem_map.mp hu
      exact k (.name x) b2 rfl (fun y h => by cases h; exact hx) rfl hb2
/-- a drawn form -/
theorem ev_form {nms : List (List Nat)} (hne : nms ≠ []) (hnm : ∀ x ∈ nms, nameL x = true) (hsz : nms.length < 1073741824) : ∀ (n d : Nat) (S : Store) (b : Bag) (Q : W → Store → Prop), 1 ≤ n → d ≤ n → S[l]? = some b.ob → b.Ok →
    (∀ f b', dep f ≤ max d 1 → (∀ x, Sub (.name x) f → x ∈ nms) → Bag.Ok b' → Q (toW f) (S.set l b'.ob)) → Ev (G__law_form n [.ref l, .lst (nms.map fun a => .str (tx a)), .int d] S) Q
  | 0, _, _, _, _, h0, _, _, _, _ => by omega
  | n + 1, d, S, b, Q, h0, hd, h, hb, k => by
    have hl := get_len h
    have get : ∀ b', (S.set l (Bag.ob b'))[l]? = some b'.ob := fun b' => List.getElem?_set_self hl
    generalize hw : (W.lst (nms.map fun a => W.str (tx a))) = w
    simp [G__law_form, runB_eq, sh__law_form, startW]
    refine ev_draw h hb (by decide) (by decide) fun i b1 hi hb1 => ?_
    by_cases hleaf : (d : Int) < 2 ∨ i = 0
    · have leaf : Ev (G__law_leaf [.ref l, w] (S.set l b1.ob)) Q := by
        subst hw
        refine ev_leaf hne hnm hsz (get b1) hb1 fun f b2 h1 h2 _ hb2 => ?_
        rw [List.set_set]
        exact k f b2 (by omega) h2 hb2
      rcases hleaf with hlt | hz
      · simp [hlt]
        exact leaf
      · subst hz
        by_cases hlt : (d : Int) < 2
        · simp [hlt]; exact leaf
        · simp [hlt]; exact leaf
    · rw [not_or] at hleaf
      simp [hleaf.1, hleaf.2]
      have e1 : (d : Int) - 1 = ((d - 1 : Nat) : Int) := by omega
      rw [e1]
      subst hw
      refine ev_form hne hnm hsz n (d - 1) _ b1 _ (by omega) (by omega) (get b1) hb1 fun f b2 hf1 hf2 hb2 => ?_
      have hi9 : i < 9 := by omega
      have hdd : max (d - 1) 1 + 1 ≤ max d 1 := by omega
      have one : ∀ u : U, Q (toW (.un u f)) (S.set l b2.ob) := fun u => k (.un u f) b2 (by simp only [dep]; omega) (fun x h => by cases h with | un h => exact hf2 x h) hb2
      have two : ∀ (o : B), Ev (G__law_form n [.ref l, .lst (nms.map fun a => .str (tx a)), .int ((d - 1 : Nat) : Int)] (S.set l b2.ob)) fun w T => Q (.tup [.str o.w.s, toW f, w]) T := fun o => by
        refine ev_form hne hnm hsz n (d - 1) _ b2 _ (by omega) (by omega) (List.getElem?_set_self hl) hb2 fun g b3 hg1 hg2 hb3 => ?_
        rw [List.set_set]
        exact k (.bin o f g) b3 (by simp only [dep]; omega) (fun x h => by
          cases h with
          | left h => exact hf2 x h
          | right h => exact hg2 x h) hb3
      rw [List.set_set]
      match i, hi9, hleaf.2 with
      | 1, _, _ => simp; exact one .not
      | 2, _, _ => simp; exact one .closed
      | 3, _, _ => simp; exact one .opn
      | 4, _, _ => simp; exact one .rim
      | 5, _, _ => simp [e1]; exact two .or
      | 6, _, _ => simp [e1]; exact two .and
      | 7, _, _ => simp [e1]; exact two .less
      | 8, _, _ => simp [e1]; exact two .and
end
end LTm
end
section
set_option maxRecDepth 100000
set_option maxHeartbeats 4000000
namespace LTm
open PySem PySem.Spec L2 RL LC OrdX
open PyProof.Rows hiding St
/-! ### dicts whose keys are texts -/
theorem no_iff : ∀ {ws : List W}, noClos ws = true ↔ ∀ w ∈ ws, noClo w = true
  | [] => ⟨fun _ _ m => (by cases m), fun _ => rfl⟩
  | w :: r => by
    have ih := no_iff (ws := r)
    constructor
    · intro h
      have h : (noClo w && noClos r) = true := h
      rw [Bool.and_eq_true] at h
      intro u m
      rcases List.mem_cons.mp m with rfl | m
      · exact h.1
      · exact ih.mp h.2 u m
    · intro h
      show (noClo w && noClos r) = true
      rw [h w List.mem_cons_self, ih.mpr fun u m => h u (List.mem_cons_of_mem _ m)]; rfl
structure Ks (d : KW) (A : List Str) : Prop where
  nd : (d.map (·.1)).Nodup
  mem : ∀ k, k ∈ d.map (·.1) ↔ ∃ x, x ∈ A ∧ k = Sum.inr x
  len : d.length ≤ A.length
  no : noClos (d.map (·.2)) = true
theorem Ks.nil : Ks [] [] := ⟨List.nodup_nil, fun k => by simp, Nat.le_refl _, rfl⟩
theorem map_repl (d : KW) (k : Key) (w : W) : (d.map fun kv => if kv.1 = k then (kv.1, w) else kv).map (·.1) = d.map (·.1) := by
  rw [List.map_map]
  refine List.map_congr_left fun kv _ => ?_
  simp only [Function.comp]
  split <;> rfl
theorem Ks.put {d : KW} {A : List Str} (h : Ks d A) (x : Str) (w : W) (hw : noClo w = true := by rfl) : Ks (putW d (.inr x) w) (x :: A) := by
  have hno : noClos ((putW d (.inr x) w).map (·.2)) = true := by
    rw [no_iff]
    have ho := no_iff.mp h.no
    intro u hu
    obtain ⟨kv, hm, rfl⟩ := List.mem_map.mp hu
    unfold putW at hm
    split at hm
    · obtain ⟨kv', hm', rfl⟩ := List.mem_map.mp hm
      split
      · exact hw
      · exact ho _ (List.mem_map.mpr ⟨kv', hm', rfl⟩)
    · rcases List.mem_append.mp hm with hm | hm
      · exact ho _ (List.mem_map.mpr ⟨kv, hm, rfl⟩)
      · rw [List.mem_singleton.mp hm]; exact hw
  revert hno
  unfold putW
  split
  · rename_i hz
    rw [List.any_eq_true] at hz
    obtain ⟨kv, hm, hk⟩ := hz
    have hx : (Sum.inr x : Key) ∈ d.map (·.1) := List.mem_map.mpr ⟨kv, hm, of_decide_eq_true hk⟩
    have hxA : x ∈ A := by
      obtain ⟨y, hy, e⟩ := (h.mem _).mp hx
      cases e; exact hy
    intro hno
    refine ⟨by rw [map_repl]; exact h.nd, fun k => ?_, by rw [List.length_map, List.length_cons]; exact Nat.le_succ_of_le h.len, hno⟩
    rw [map_repl, h.mem]
    exact ⟨fun ⟨y, hy, e⟩ => ⟨y, List.mem_cons_of_mem _ hy, e⟩, fun ⟨y, hy, e⟩ => by
      rcases List.mem_cons.mp hy with rfl | hy
      · exact ⟨_, hxA, e⟩
      · exact ⟨y, hy, e⟩⟩
  · rename_i hz
    have hx : (Sum.inr x : Key) ∉ d.map (·.1) := fun m => by
      obtain ⟨kv, hm, e⟩ := List.mem_map.mp m
      exact hz (List.any_eq_true.mpr ⟨kv, hm, decide_eq_true e⟩)
    intro hno
    refine ⟨?_, fun k => ?_, by rw [List.length_append, List.length_cons]; exact Nat.add_le_add_right h.len 1, hno⟩
    · rw [List.map_append, List.nodup_append]
      exact ⟨h.nd, by simp, fun a ha b hb => by
        have : b = Sum.inr x := by simpa using hb
        subst this
        exact fun e => hx (e ▸ ha)⟩
    · rw [List.map_append, List.mem_append, h.mem]
      constructor
      · rintro (⟨y, hy, e⟩ | hk)
        · exact ⟨y, List.mem_cons_of_mem _ hy, e⟩
        · exact ⟨x, List.mem_cons_self, by simpa using hk⟩
      · rintro ⟨y, hy, e⟩
        rcases List.mem_cons.mp hy with rfl | hy
        · exact .inr (by simpa using e)
        · exact .inl ⟨y, hy, e⟩
theorem Ks.of {d : KW} {A B : List Str} (h : Ks d A) (e : ∀ x, x ∈ A ↔ x ∈ B) (hl : A.length ≤ B.length) : Ks d B :=
  ⟨h.nd, fun k => by rw [h.mem]; exact ⟨fun ⟨x, hx, q⟩ => ⟨x, (e x).mp hx, q⟩, fun ⟨x, hx, q⟩ => ⟨x, (e x).mpr hx, q⟩⟩, Nat.le_trans h.len hl, h.no⟩
theorem Ks.merge_aux : ∀ (e : KW) {d : KW} {A B : List Str}, noClos (e.map (·.2)) = true → Ks d A → (e.map (·.1)).length ≤ B.length → (∀ k, k ∈ e.map (·.1) → ∃ x, x ∈ B ∧ k = Sum.inr x) → ∃ C : List Str, Ks (mergeW d e) C ∧ (∀ x, x ∈ C ↔ x ∈ A ∨ (Sum.inr x : Key) ∈ e.map (·.1)) ∧ C.length = A.length + e.length
  | [], d, A, B, _, h, _, _ => ⟨A, h, fun x => by simp, by simp⟩
  | (k, w) :: e, d, A, B, hn, h, hl, hB => by
    have hn1 := no_iff.mp hn
    obtain ⟨x, hx, ek⟩ := hB k (by simp)
    subst ek
    obtain ⟨C, h1, h2, h3⟩ := Ks.merge_aux e (B := (x :: B)) (no_iff.mpr fun u m => hn1 u (List.mem_cons_of_mem _ m)) (h.put x w (hn1 w List.mem_cons_self)) (by simp at hl ⊢; omega) fun k m => by
      obtain ⟨y, hy, e⟩ := hB k (List.mem_cons_of_mem _ m)
      exact ⟨y, List.mem_cons_of_mem _ hy, e⟩
    refine ⟨C, h1, fun y => ?_, by rw [h3]; simp; omega⟩
    rw [h2, List.mem_cons, List.map_cons, List.mem_cons]
    constructor
    · rintro ((rfl | h) | h)
      · exact .inr (.inl rfl)
      · exact .inl h
      · exact .inr (.inr h)
    · rintro (h | h | h)
      · exact .inl (.inr h)
      · exact .inl (.inl (by cases h; rfl))
      · exact .inr h
theorem Ks.merge {d e : KW} {A B : List Str} (h : Ks d A) (h' : Ks e B) : Ks (mergeW d e) (A ++ B) := by
  obtain ⟨C, h1, h2, h3⟩ := Ks.merge_aux e (B := B) h'.no h (by rw [List.length_map]; exact h'.len) fun k m => (h'.mem k).mp m
  refine h1.of (fun x => ?_) (by rw [h3, List.length_append]; exact Nat.add_le_add_left h'.len _)
  rw [h2, List.mem_append, h'.mem]
  exact or_congr Iff.rfl ⟨fun ⟨y, hy, e⟩ => (by cases e; exact hy), fun hx => ⟨x, hx, rfl⟩⟩
/-- its keys, as texts -/
theorem Ks.keys {d : KW} {A : List Str} (h : Ks d A) : ∃ xs : List Str, d.map (·.1) = xs.map Sum.inr ∧ xs.Nodup ∧ (∀ x, x ∈ xs ↔ x ∈ A) ∧ xs.length ≤ A.length := by
  have : ∀ l : List Key, (∀ k ∈ l, ∃ x : Str, k = Sum.inr x) → ∃ xs : List Str, l = xs.map Sum.inr := by
    intro l
    induction l with
    | nil => exact fun _ => ⟨[], rfl⟩
    | cons k r ih =>
      intro h
      obtain ⟨x, rfl⟩ := h k List.mem_cons_self
      obtain ⟨xs, rfl⟩ := ih fun k m => h k (List.mem_cons_of_mem _ m)
      exact ⟨x :: xs, rfl⟩
  obtain ⟨xs, e⟩ := this (d.map (·.1)) fun k m => by obtain ⟨x, _, e⟩ := (h.mem k).mp m; exact ⟨x, e⟩
  have nd : xs.Nodup := by
    have := h.nd
    rw [e] at this
    exact (List.pairwise_map.mp this).imp fun hab e => hab (by rw [e])
  refine ⟨xs, e, nd, fun x => ?_, by have := congrArg List.length e; simp at this; rw [← this]; exact h.len⟩
  have := h.mem (Sum.inr x)
  rw [e] at this
  constructor
  · intro m
    obtain ⟨y, hy, q⟩ := this.mp (List.mem_map.mpr ⟨x, m, rfl⟩)
    cases q; exact hy
  · intro m
    obtain ⟨y, hy, q⟩ := List.mem_map.mp (this.mpr ⟨x, m, rfl⟩)
    cases q; exact hy
/-- sorted, they are told by their set alone -/
theorem srt_usrt {xs A : List Str} (nd : xs.Nodup) (h : ∀ x, x ∈ xs ↔ x ∈ A) : srt ltS xs = usrt ltS A := by
  refine usrt_eq totS (fun x => ((srt_perm xs).mem_iff).trans (h x)) ?_
  have p := srt_pw totS xs
  have nd' : (srt ltS xs).Nodup := (srt_perm xs).nodup_iff.mpr nd
  refine (p.and nd').imp fun {a b} hab => ?_
  rcases totS.tri a b hab.2 with k | k
  · exact k
  · rw [hab.1] at k; cases k
theorem usrt_congr {A B : List Str} (h : ∀ x, x ∈ A ↔ x ∈ B) : usrt ltS A = usrt ltS B := usrt_eq totS (fun x => (mem_usrt totS x A).trans (h x)) (usrt_pw totS A)
/-! ### the closings of a core -/
/-! ### how large they are -/
theorem txt_un (u : U) (f : Form) : (txt (.un u f)).length ≤ (txt f).length + 8 := by
  cases u <;> simp [txt, U.w, Wd.c]
theorem txt_bin (b : B) (f g : Form) : (txt (.bin b f g)).length = (txt f).length + (txt g).length + 5 := by
  simp [txt]; omega
theorem txt_le : ∀ f : Form, (∀ x, Sub (.name x) f → x.length ≤ 6) → (txt f).length + 25 ≤ 16 * 2 ^ dep f
  | .all, _ => by simp [dep, txt, Wd.c]
  | .none, _ => by simp [dep, txt, Wd.c]
  | .name x, h => by have := h x .self; simp [dep, txt]; omega
  | .un u f, hn => by
    have h := txt_le f fun x m => hn x (.un m)
    have hp : 2 ^ (dep f + 1) = 2 * 2 ^ dep f := by rw [Nat.pow_succ, Nat.mul_comm]
    have h4 := txt_un u f
    simp only [dep, hp]
    omega
  | .bin b f g, hn => by
    have h := txt_le f fun x m => hn x (.left m)
    have h' := txt_le g fun x m => hn x (.right m)
    have h1 : 2 ^ dep f ≤ 2 ^ max (dep f) (dep g) := Nat.pow_le_pow_right (by decide) (by omega)
    have h2 : 2 ^ dep g ≤ 2 ^ max (dep f) (dep g) := Nat.pow_le_pow_right (by decide) (by omega)
    have hp : 2 ^ (max (dep f) (dep g) + 1) = 2 * 2 ^ max (dep f) (dep g) := by rw [Nat.pow_succ, Nat.mul_comm]
    simp only [dep, hp, txt_bin]
    omega
theorem prt_le : ∀ f : Form, prt f + 1 ≤ 2 ^ dep f
  | .all => by simp [dep, prt]
  | .none => by simp [dep, prt]
  | .name x => by simp [dep, prt]
  | .un u f => by
    have h := prt_le f
    have hp : 2 ^ (dep f + 1) = 2 * 2 ^ dep f := by rw [Nat.pow_succ, Nat.mul_comm]
    simp only [dep, hp, prt]
    omega
  | .bin b f g => by
    have h := prt_le f
    have h' := prt_le g
    have h1 : 2 ^ dep f ≤ 2 ^ max (dep f) (dep g) := Nat.pow_le_pow_right (by decide) (by omega)
    have h2 : 2 ^ dep g ≤ 2 ^ max (dep f) (dep g) := Nat.pow_le_pow_right (by decide) (by omega)
    have hp : 2 ^ (max (dep f) (dep g) + 1) = 2 * 2 ^ max (dep f) (dep g) := by rw [Nat.pow_succ, Nat.mul_comm]
    simp only [dep, hp, prt]
    omega
theorem sub_dep {g f : Form} (h : Sub g f) : dep g ≤ dep f := by
  induction h with
  | self => exact Nat.le_refl _
  | un _ ih => simp only [dep]; omega
  | left _ ih => simp only [dep]; omega
  | right _ ih => simp only [dep]; omega
theorem fits_of {f : Form} (h : dep f ≤ 10) : Fits f := by
  have := prt_le f
  have h2 : 2 ^ dep f ≤ 2 ^ 10 := Nat.pow_le_pow_right (by decide) h
  exact ⟨by omega, by omega⟩
end LTm
end
section
set_option maxRecDepth 100000
set_option maxHeartbeats 4000000
namespace LTm
open PySem PySem.Spec L2 RL LC OrdX
open PyProof.Rows hiding St
/-- what stood ahead of L stands -/
structure Keep (L : Nat) (S T : Store) : Prop where
  len : S.length ≤ T.length
  at_ : ∀ i, i < L → T[i]? = S[i]?
  no : noCloS S = true → noCloS T = true
theorem Keep.refl {L : Nat} {S : Store} : Keep L S S := ⟨Nat.le_refl _, fun _ _ => rfl, id⟩
theorem Keep.trans {L : Nat} {S T R : Store} (a : Keep L S T) (b : Keep L T R) : Keep L S R := ⟨Nat.le_trans a.len b.len, fun i hi => (b.at_ i hi).trans (a.at_ i hi), fun h => b.no (a.no h)⟩
theorem Keep.le {L M : Nat} {S T : Store} (a : Keep L S T) (h : M ≤ L) : Keep M S T := ⟨a.len, fun i hi => a.at_ i (Nat.lt_of_lt_of_le hi h), a.no⟩
theorem Keep.push {L : Nat} {S : Store} {o : Ob} (h : L ≤ S.length) (ho : noCloO o = true := by rfl) : Keep L S (S ++ [o]) := ⟨by rw [List.length_append]; omega, fun i hi => List.getElem?_append_left (by omega), fun n => by
  unfold noCloS at n ⊢
  rw [List.all_append, n, List.all_cons, ho]; rfl⟩
theorem Keep.set {L l : Nat} {S : Store} {o : Ob} (h : L ≤ l) (ho : noCloO o = true := by rfl) : Keep L S (S.set l o) := ⟨by rw [List.length_set]; exact Nat.le_refl _, fun i hi => List.getElem?_set_ne (by omega), fun n => by
  unfold noCloS at n ⊢
  rw [List.all_eq_true] at n ⊢
  intro x hx
  rcases List.mem_or_eq_of_mem_set hx with m | rfl
  · exact n x m
  · exact ho⟩
theorem no_strs : ∀ xs : List Str, noClos (xs.map W.str) = true
  | [] => rfl
  | _ :: r => no_strs r
theorem Ks.obj {d : KW} {A : List Str} (h : Ks d A) : noCloO (dicO d) = true := h.no
section
variable {S : Store}
/-- the dict so far is new -/
theorem new_dic {L : Nat} : (S ++ [dicO []])[S.length]? = some (dicO []) := by simp
/-- list(d) of a dict of texts -/
theorem listD_ok {l : Nat} {d : KW} {A : List Str} (h : S[l]? = some (dicO d)) (hk : Ks d A) : ∃ xs : List Str, gListD (.ref l) S = .ok (.lst (xs.map W.str)) S ∧ xs.Nodup ∧ (∀ x, x ∈ xs ↔ x ∈ A) ∧ xs.length ≤ A.length ∧ d.map (·.1) = xs.map Sum.inr := by
  obtain ⟨xs, e1, e2, e3, e4⟩ := hk.keys
  refine ⟨xs, ?_, e2, e3, e4, e1⟩
  have q1 : seqA S (.ref l) = none := by
    have : lstAt S l = none := by unfold lstAt; rw [h]; rfl
    simp [seqA, tupL, this]
  have q2 : d.map (fun kv => wKey kv.1) = xs.map W.str := by
    have : d.map (fun kv => wKey kv.1) = (d.map (·.1)).map wKey := by rw [List.map_map]; rfl
    rw [this, e1, List.map_map]
    rfl
  unfold gListD
  rw [q1]
  simp only [dicAt_ref, dicO_at h, q2]
theorem strsW_str (xs : List Str) : strsW (xs.map W.str) = some xs := by
  induction xs with
  | nil => rfl
  | cons x r ih => simp [strsW, ih]
end
end LTm
end
section
set_option maxRecDepth 100000
set_option maxHeartbeats 4000000
namespace LTm
open PySem PySem.Spec L2 RL LC OrdX
open PyProof.Rows hiding St
/-! ### _law_same with a list of the store on the left -/
section
variable {S : Store}
theorem isi_of (t : String) (w : W) (x : String) (b : Bool) (h1 : tyOf S w = some (.ty t)) (h2 : ktB (.ty t) (.ty x) = some b) : gIsi ktB [w, .ty x] S = .ok (.bl b) S := by
  simp [gIsi, gIsi1, h1, isCls, h2]
theorem isi_of2 (t : String) (w : W) (b b' : Bool) (h1 : tyOf S w = some (.ty t)) (h2 : ktB (.ty t) (.ty "list") = some b) (h3 : ktB (.ty t) (.ty "tuple") = some b') : gIsi ktB [w, .tup [.ty "list", .ty "tuple"]] S = .ok (.bl (b || b')) S := by
  cases b <;> cases b' <;> simp [gIsi, gIsi1, h1, isCls, tupL, ktAny, h2, h3]
theorem same_gen {n : Nat} {fw : W} {ws us : List W} {it : ItW} (h1 : tyOf S fw = some (.ty "list")) (h2 : gLen fw S = .ok (.int ws.length) S) (h3 : zipK [fw, .lst us] S = .ok it S) (h4 : Items S it (zipW ws us))
    (hl : ws.length = us.length) (ht : ws.length < turns) (h : ∀ (i : Nat) a b, ws[i]? = some a → us[i]? = some b → G__law_same n [a, b] S = .ok (.bl true) S) : G__law_same (n + 1) [fw, .lst us] S = .ok (.bl true) S := by
  have i1 := isi_of (S := S) "list" fw "list" true h1 rfl
  have i2 := isi_of (S := S) "list" fw "tuple" false h1 rfl
  have i3 := isi_of2 (S := S) "list" (.lst us) true false rfl rfl rfl
  have j1 := isi_of (S := S) "list" (.lst us) "list" true rfl rfl
  have j2 := isi_of (S := S) "list" (.lst us) "tuple" false rfl rfl
  have hz : (zipW ws us).length < turns := by unfold zipW; rw [List.length_map, List.length_zip]; omega
  have cmp : ∀ a b : Option W, mLcI it (gTp 2 (gCons (gNm 2) (gCons (gNm 3) gNil))) mYes (mAp (G__law_same n) (mCons (mVar 2) (mCons (mVar 3) mNil))) [a, b, none, none] S = .ok ((zipW ws us).map fun _ => .bl true) S := by
    intro a b
    rw [lcI_fp (ws := zipW ws us) (fun _ => true) (fun _ => .bl true) h4 hz fun w hw => ?_]
    · rw [List.filter_eq_self.mpr (fun _ _ => rfl)]
    · obtain ⟨i, hi⟩ := List.mem_iff_getElem?.mp hw
      obtain ⟨x, y, g1, g2, rfl⟩ := zipW_get hi
      refine ⟨[a, b, some x, some y], by simp, rfl, fun _ => ?_⟩
      simp [h i x y g1 g2]
  have hb : blsW ((zipW ws us).map fun _ => W.bl true) = some ((zipW ws us).map fun _ => true) := blsW_map (fun _ => true) _
  simp [G__law_same, runB_eq, startW, sh__law_same, i1, i2, i3, j1, j2, h2, h3, cmp, truW, wipeW, gAll, hl, hb]
theorem same_lst {n : Nat} {ws us : List W} (hl : ws.length = us.length) (ht : ws.length < turns) (h : ∀ (i : Nat) a b, ws[i]? = some a → us[i]? = some b → G__law_same n [a, b] S = .ok (.bl true) S) : G__law_same (n + 1) [.lst ws, .lst us] S = .ok (.bl true) S :=
  same_gen rfl rfl (zipK_lst) rfl hl ht h
theorem same_ref {n l : Nat} {ws us : List W} (hs : lstAt S l = some ws) (hl : ws.length = us.length) (ht : ws.length < turns) (h : ∀ (i : Nat) a b, ws[i]? = some a → us[i]? = some b → G__law_same n [a, b] S = .ok (.bl true) S) : G__law_same (n + 1) [.ref l, .lst us] S = .ok (.bl true) S := by
  have hS : S[l]? = some (.lst ws) := by
    unfold lstAt at hs
    cases e : S[l]? with
    | none => rw [e] at hs; cases hs
    | some o => cases o <;> rw [e] at hs <;> first | (cases hs; rfl) | cases hs
  refine same_gen (it := .gen (nxZ (.ref l) (.lst us))) (ws := ws) (by simp [tyOf, hS]) (by simp [gLen, hs]) ?_ (fun i => ?_) hl ht h
  · simp [zipK, RL.itL, tupL, zipG, hs]
  · simp [nxZ, hs]
theorem same_str {n : Nat} {x : Str} : G__law_same (n + 1) [.str x, .str x] S = .ok (.bl true) S := same_self (n + 1) (.str x) rfl S
theorem same_refS {n l : Nat} {xs : List Str} (hs : lstAt S l = some (xs.map W.str)) (ht : xs.length < turns) : G__law_same (n + 2) [.ref l, .lst (xs.map W.str)] S = .ok (.bl true) S :=
  same_ref hs rfl (by rw [List.length_map]; exact ht) fun i a b h1 h2 => by
    rw [h1] at h2; cases h2
    rw [List.getElem?_map] at h1
    cases e : xs[i]? with
    | none => rw [e] at h1; cases h1
    | some x => rw [e] at h1; cases h1; exact same_str
end
end LTm
end
section
set_option maxRecDepth 100000
set_option maxHeartbeats 4000000
namespace LTm
open PySem PySem.Spec L2 RL LC OrdX
open PyProof.Rows hiding St
/-! ### drawn names -/
theorem wordL_fact {stem : List Nat} {at' first k : Nat} (h : ∀ c, c ∈ stem → c ∈ consL) (hl : stem.length ≤ 5) (ha : at' ≤ stem.length) : (∀ c, c ∈ wordL stem at' first k → c ∈ consL) ∧ (wordL stem at' first k).length ≤ 6 ∧ 1 ≤ (wordL stem at' first k).length := by
  have h21 : (first + 5 * k) % 21 < consL.length := Nat.mod_lt _ (by decide)
  have hc := List.getElem?_eq_getElem h21
  unfold wordL
  rw [hc]
  refine ⟨fun c m => ?_, by simp; omega, by simp; omega⟩
  rcases List.mem_append.mp m with m | m
  · exact h c (List.mem_of_mem_take m)
  · rcases List.mem_append.mp m with m | m
    · simp at m; rw [m]; exact List.getElem_mem _
    · exact h c (List.mem_of_mem_drop m)
theorem name_cons {a : List Nat} (h : ∀ c, c ∈ a → c ∈ consL) (h1 : 1 ≤ a.length) (h6 : a.length ≤ 6) : nameL a = true := by
  have hr : a ∉ reservedL := fun m => by
    have : ∀ r, r ∈ reservedL → r.all (fun c => decide (c ∈ consL)) = false := by decide +kernel
    have z := this a m
    rw [List.all_eq_true.mpr (fun c hc => decide_eq_true (h c hc))] at z
    cases z
  have hl : ∀ c, c ∈ consL → c ∈ lettersL := by decide +kernel
  unfold nameL
  rw [decide_eq_true h1, decide_eq_true h6, decide_eq_false hr, List.all_eq_true.mpr (fun c hc => decide_eq_true (hl c (h c hc)))]
  rfl
theorem words_name {ws : List (List Nat)} {m : Nat} (h : Words ws m) : ∀ x ∈ ws, nameL x = true ∧ x.length ≤ 6 := by
  obtain ⟨stem, at', first, h1, h2, h3, h4, rfl⟩ := h.ex
  intro x hx
  obtain ⟨k, hk, rfl⟩ := List.mem_map.mp hx
  obtain ⟨a1, a2, a3⟩ := wordL_fact (first := first) (k := k) h1 h2 h3
  exact ⟨name_cons a1 a3 a2, a2⟩
theorem words_len {ws : List (List Nat)} {m : Nat} (h : Words ws m) : ws.length = m := by
  obtain ⟨stem, at', first, h1, h2, h3, h4, rfl⟩ := h.ex
  simp
end LTm
end
section
set_option maxRecDepth 100000
set_option maxHeartbeats 4000000
/-! texts of terms, read: the plain reading -/
namespace LTm
open PySem PySem.Spec L2 RL LC
open PyProof.Rows hiding St
noncomputable def lets (r : List Nat) : List Nat := r.takeWhile fun c => decide (c ∈ lettersL)
noncomputable def aft (r : List Nat) : List Nat := r.dropWhile fun c => decide (c ∈ lettersL)
noncomputable def eat (c r : List Nat) : Option (List Nat) := if c.isPrefixOf r = true then some (r.drop c.length) else none
/-- what a reading comes to: no room, a wrong text, a form and the rest -/
inductive PR where
  | fuel | err
  | ok (f : Form) (r : List Nat)
noncomputable def PR.andThen (p : PR) (k : Form → List Nat → PR) : PR := match p with
  | .ok f r => k f r
  | .err => .err
  | .fuel => .fuel
noncomputable def onO {α : Type} (o : Option α) (k : α → PR) : PR := match o with
  | some a => k a
  | none => .err
noncomputable def sgn : List Nat → Option B
  | 124 :: _ => some .or
  | 38 :: _ => some .and
  | 45 :: _ => some .less
  | _ => none
noncomputable def uOf (w : List Nat) : Option U := if w = Wd.closed.c then some .closed else if w = Wd.opn.c then some .opn else if w = Wd.rim.c then some .rim else none
noncomputable def pWord (p : List Nat → PR) (w t : List Nat) : PR := if w = Wd.all.c then .ok .all t else if w = Wd.none.c then .ok .none t else match uOf w with
  | some u => onO (eat [40] t) fun t1 => (p t1).andThen fun f t2 => onO (eat [41] t2) fun t3 => .ok (.un u f) t3
  | none => if nameL w = true then .ok (.name w) t else .err
noncomputable def pPair (p : List Nat → PR) (r : List Nat) : PR := (p r).andThen fun f t => onO (eat [32] t) fun t1 => onO (sgn t1) fun b => onO (eat [b.sign, 32] t1) fun t2 => (p t2).andThen fun g t3 => onO (eat [41] t3) fun t4 => .ok (.bin b f g) t4
noncomputable def pPart : Nat → List Nat → PR
  | 0, _ => .fuel
  | n + 1, r => match r with
    | 126 :: q => (pPart n q).andThen fun f t => .ok (.un .not f) t
    | 40 :: q => pPair (pPart n) q
    | r => pWord (pPart n) (lets r) (aft r)
/-- the names in it are names -/
noncomputable def Good : Form → Prop
  | .name x => nameL x = true
  | .un _ f => Good f
  | .bin _ f g => Good f ∧ Good g
  | _ => True
theorem let_cat (r : List Nat) : lets r ++ aft r = r := List.takeWhile_append_dropWhile
theorem eat_of {c r t : List Nat} (h : eat c r = some t) : r = c ++ t := by
  unfold eat at h
  split at h
  · rename_i hp
    cases h
    obtain ⟨t, rfl⟩ := List.isPrefixOf_iff_prefix.mp hp
    rw [List.drop_left]
  · cases h
theorem eat_app (c t : List Nat) : eat c (c ++ t) = some t := by
  unfold eat
  rw [if_pos (List.isPrefixOf_iff_prefix.mpr (List.prefix_append c t)), List.drop_left]
theorem uOf_some {w : List Nat} {u : U} (h : uOf w = some u) : w = u.w.c ∧ u ≠ .not := by
  unfold uOf at h
  split at h
  · rename_i e; cases h; exact ⟨e, by simp⟩
  · split at h
    · rename_i e; cases h; exact ⟨e, by simp⟩
    · split at h
      · rename_i e; cases h; exact ⟨e, by simp⟩
      · cases h
theorem onO_ok {α : Type} {o : Option α} {k : α → PR} {f : Form} {r : List Nat} (h : onO o k = .ok f r) : ∃ a, o = some a ∧ k a = .ok f r := by
  cases o with
  | none => cases h
  | some a => exact ⟨a, rfl, h⟩
theorem then_ok {p : PR} {k : Form → List Nat → PR} {f : Form} {r : List Nat} (h : p.andThen k = .ok f r) : ∃ g t, p = .ok g t ∧ k g t = .ok f r := by
  cases p with
  | ok g t => exact ⟨g, t, rfl, h⟩
  | err => cases h
  | fuel => cases h
theorem txt_u {u : U} {f : Form} (h : u ≠ .not) : txt (.un u f) = u.w.c ++ 40 :: (txt f ++ [41]) := by cases u <;> first | rfl | exact absurd rfl h
/-- a reading is of the text that it took -/
theorem p_sound : ∀ (n : Nat) (r : List Nat) (f : Form) (t : List Nat), pPart n r = .ok f t → r = txt f ++ t ∧ dep f ≤ n ∧ Good f
  | 0, _, _, _, h => nomatch h
  | n + 1, r, f, t, h => by
    have ih := p_sound n
    unfold pPart at h
    split at h
    · rename_i q
      obtain ⟨g, t', h1, h2⟩ := then_ok h
      cases h2
      obtain ⟨e, d, o⟩ := ih _ _ _ h1
      exact ⟨by rw [e]; rfl, by simp [dep]; exact d, o⟩
    · rename_i q
      unfold pPair at h
      obtain ⟨g, t1, h1, h⟩ := then_ok h
      obtain ⟨t2, h2, h⟩ := onO_ok h
      obtain ⟨b, h3, h⟩ := onO_ok h
      obtain ⟨t3, h4, h⟩ := onO_ok h
      obtain ⟨g2, t4, h5, h⟩ := then_ok h
      obtain ⟨t5, h6, h⟩ := onO_ok h
      cases h
      obtain ⟨e1, d1, o1⟩ := ih _ _ _ h1
      obtain ⟨e2, d2, o2⟩ := ih _ _ _ h5
      refine ⟨?_, by simp [dep]; omega, o1, o2⟩
      rw [txt_b, e1, eat_of h2, eat_of h4, e2, eat_of h6]
      simp
    · unfold pWord at h
      split at h
      · rename_i e; cases h
        exact ⟨((let_cat r).symm.trans (by rw [e]; rfl) : r = _ ++ aft r), by simp [dep], trivial⟩
      · split at h
        · rename_i e; cases h
          exact ⟨((let_cat r).symm.trans (by rw [e]; rfl) : r = _ ++ aft r), by simp [dep], trivial⟩
        · split at h
          · rename_i u hu
            obtain ⟨hw, hn⟩ := uOf_some hu
            obtain ⟨t1, h1, h⟩ := onO_ok h
            obtain ⟨g, t2, h2, h⟩ := then_ok h
            obtain ⟨t3, h3, h⟩ := onO_ok h
            cases h
            obtain ⟨e, d, o⟩ := ih _ _ _ h2
            refine ⟨?_, by simp [dep]; exact d, o⟩
            rw [← let_cat r, hw, eat_of h1, e, eat_of h3, txt_u hn]
            simp
          · split at h
            · rename_i hn; cases h
              exact ⟨(let_cat r).symm, by simp [dep], hn⟩
            · cases h
/-- .. does not go on with a letter -/
noncomputable def Stop : List Nat → Prop
  | c :: _ => c ∉ lettersL
  | [] => True
theorem lets_app {x t : List Nat} (hx : ∀ c ∈ x, c ∈ lettersL) (ht : Stop t) : lets (x ++ t) = x ∧ aft (x ++ t) = t := by
  unfold lets aft
  rw [List.takeWhile_append_of_pos (fun c hc => by simp [hx c hc]), List.dropWhile_append_of_pos (fun c hc => by simp [hx c hc])]
  cases t with
  | nil => simp
  | cons c r => simp [Stop] at ht; simp [ht]
theorem nameL_let {x : List Nat} (h : nameL x = true) : (∀ c ∈ x, c ∈ lettersL) ∧ x ≠ [] ∧ x ∉ reservedL := by
  simp only [nameL, Bool.and_eq_true, decide_eq_true_eq, Bool.not_eq_true', decide_eq_false_iff_not, List.all_eq_true] at h
  exact ⟨h.2, fun z => by rw [z] at h; simp at h, h.1.2⟩
theorem wd_let (a : Wd) : ∀ c ∈ a.c, c ∈ lettersL := by cases a <;> decide
theorem part_word {n : Nat} {x t : List Nat} (hx : ∀ c ∈ x, c ∈ lettersL) (h0 : x ≠ []) (ht : Stop t) : pPart (n + 1) (x ++ t) = pWord (pPart n) x t := by
  obtain ⟨e1, e2⟩ := lets_app hx ht
  cases x with
  | nil => exact absurd rfl h0
  | cons c r =>
    have hc := hx c List.mem_cons_self
    have n1 : c ≠ 126 := fun z => by rw [z] at hc; revert hc; decide
    have n2 : c ≠ 40 := fun z => by rw [z] at hc; revert hc; decide
    unfold pPart
    rw [List.cons_append] at e1 e2 ⊢
    split
    · rename_i h; exact absurd (List.cons.inj h).1 n1
    · rename_i h; exact absurd (List.cons.inj h).1 n2
    · rw [e1, e2]
theorem part_not (n : Nat) (q : List Nat) : pPart (n + 1) (126 :: q) = (pPart n q).andThen fun f t => .ok (.un .not f) t := by rfl
theorem part_pair (n : Nat) (q : List Nat) : pPart (n + 1) (40 :: q) = pPair (pPart n) q := by rfl
theorem p_round : ∀ (f : Form) (n : Nat) (t : List Nat), Good f → dep f ≤ n → Stop t → pPart n (txt f ++ t) = .ok f t
  | f, 0, _, _, h, _ => absurd (dep_pos f) (by omega)
  | .all, n + 1, t, _, _, ht => by
    rw [show txt .all = Wd.all.c from rfl, part_word (wd_let _) (by decide) ht]
    unfold pWord; rw [if_pos rfl]
  | .none, n + 1, t, _, _, ht => by
    rw [show txt .none = Wd.none.c from rfl, part_word (wd_let _) (by decide) ht]
    unfold pWord; rw [if_neg (by decide), if_pos rfl]
  | .name x, n + 1, t, g, _, ht => by
    have g : nameL x = true := g
    obtain ⟨h1, h2, h3⟩ := nameL_let g
    have nr : ∀ a : Wd, a.c ∈ reservedL → x ≠ a.c := fun a m z => h3 (z ▸ m)
    rw [show txt (.name x) = x from rfl, part_word h1 h2 ht]
    unfold pWord uOf
    rw [if_neg (nr .all (by decide +kernel)), if_neg (nr .none (by decide +kernel)), if_neg (nr .closed (by decide +kernel)), if_neg (nr .opn (by decide +kernel)), if_neg (nr .rim (by decide +kernel))]
    dsimp only
    rw [if_pos g]
  | .un u f, n + 1, t, g, hd, ht => by
    have hd' : dep f ≤ n := by simp [dep] at hd; omega
    by_cases hu : u = .not
    · subst hu
      have ih := p_round f n t g hd' ht
      show pPart (n + 1) (126 :: (txt f ++ t)) = _
      rw [part_not, ih]; rfl
    · have ih := p_round f n (41 :: t) g hd' (by show 41 ∉ lettersL; decide)
      rw [txt_u hu]
      have e : u.w.c ++ 40 :: (txt f ++ [41]) ++ t = u.w.c ++ 40 :: (txt f ++ 41 :: t) := by simp
      rw [e, part_word (wd_let _) (by cases u <;> decide) (by show 40 ∉ lettersL; decide)]
      have e1 : eat [40] (40 :: (txt f ++ 41 :: t)) = some (txt f ++ 41 :: t) := eat_app [40] _
      have e2 : eat [41] (41 :: t) = some t := eat_app [41] _
      unfold pWord
      cases u with
      | not => exact absurd rfl hu
      | closed => rw [if_neg (by decide), if_neg (by decide), show uOf U.closed.w.c = some .closed from rfl]; dsimp only; rw [e1]; dsimp only [onO]; rw [ih]; dsimp only [PR.andThen]; rw [e2]
      | opn => rw [if_neg (by decide), if_neg (by decide), show uOf U.opn.w.c = some .opn from rfl]; dsimp only; rw [e1]; dsimp only [onO]; rw [ih]; dsimp only [PR.andThen]; rw [e2]
      | rim => rw [if_neg (by decide), if_neg (by decide), show uOf U.rim.w.c = some .rim from rfl]; dsimp only; rw [e1]; dsimp only [onO]; rw [ih]; dsimp only [PR.andThen]; rw [e2]
  | .bin b f g, n + 1, t, hg, hd, ht => by
    have hd' : dep f ≤ n ∧ dep g ≤ n := by simp [dep] at hd; omega
    have ih1 := p_round f n (32 :: b.sign :: 32 :: (txt g ++ 41 :: t)) hg.1 hd'.1 (by show 32 ∉ lettersL; decide)
    have ih2 := p_round g n (41 :: t) hg.2 hd'.2 (by show 41 ∉ lettersL; decide)
    have e : txt (.bin b f g) ++ t = 40 :: (txt f ++ 32 :: b.sign :: 32 :: (txt g ++ 41 :: t)) := by rw [txt_b]; simp
    rw [e, part_pair]
    unfold pPair
    rw [ih1]
    dsimp only [PR.andThen]
    rw [show eat [32] (32 :: b.sign :: 32 :: (txt g ++ 41 :: t)) = some (b.sign :: 32 :: (txt g ++ 41 :: t)) from eat_app [32] _]
    dsimp only [onO]
    rw [show sgn (b.sign :: 32 :: (txt g ++ 41 :: t)) = some b from by cases b <;> rfl]
    dsimp only
    rw [show eat [b.sign, 32] (b.sign :: 32 :: (txt g ++ 41 :: t)) = some (txt g ++ 41 :: t) from eat_app [b.sign, 32] _]
    dsimp only
    rw [ih2]
    dsimp only
    rw [show eat [41] (41 :: t) = some t from eat_app [41] _]
/-- the signs that a form may begin with -/
noncomputable def cnt (r : List Nat) : Nat := r.countP fun c => decide (c = 126) || decide (c = 40)
/-- a whole text -/
noncomputable def pRead (n : Nat) (r : List Nat) : PR := (pPart n r).andThen fun f t => if t = [] then .ok f [] else .err
theorem read_round {n : Nat} {f : Form} (g : Good f) (hd : dep f ≤ n) : pRead n (txt f) = .ok f [] := by
  have := p_round f n [] g hd trivial
  rw [List.append_nil] at this
  unfold pRead
  rw [this]; rfl
end LTm
end
section
set_option maxRecDepth 100000
set_option maxHeartbeats 4000000
/-! what the laws of terms share: the reader, the names -/
namespace LTm
open PySem PySem.Spec L2 RL LC
open PyProof.Rows hiding St
noncomputable def c_SIGNS : List (Str × Str) := [("|", "or"), ("&", "and"), ("-", "less")]
noncomputable def p_InvalidText : List Str := ["line"]
noncomputable def l_InvalidText : List (Str × (Str ⊕ Str)) := [("code", .inl "InvalidText"), ("line", .inr "line")]
noncomputable def k_SIGNS : List Str := ["|", "&", "-"]
noncomputable def sh_depth_in (G_depth_in' : Fn) : SS := (mSeq (mIf (mBT (gEq false) (mBin gIx (mVar 0) (mC (.int 0))) (mC (.str "name"))) (mRet (mDGet2 (mVar 1) (mBin gIx (mVar 0) (mC (.int 1))) (mC (.int 1)))) mSkip)
  (mRet (mBin gAdd (mC (.int 1)) (mAp (g1 gMax) (mCons (mBin gAdd (mAp gLst (mCons (mC (.int 0)) mNil)) (mLc (mItems (mAp G_inner_nodes (mCons (mVar 0) mNil))) [2] (gNm 2) mYes (mAp G_depth_in' (mCons (mVar 2) (mCons (mVar 1) mNil))))) mNil)))))
noncomputable def G_depth_in : Nat → Fn
  | 0 => fun _ _ => .bad
  | n + 1 => runB 3 (sh_depth_in (G_depth_in n))
noncomputable def sh_parts_in (G_parts_in' : Fn) : SS := (mSeq (mIf (mBT (gEq false) (mBin gIx (mVar 0) (mC (.int 0))) (mC (.str "name"))) (mRet (mDGet2 (mVar 1) (mBin gIx (mVar 0) (mC (.int 1))) (mC (.int 1)))) mSkip)
  (mRet (mBin gAdd (mC (.int 1)) (mAp (g1 gSum) (mCons (mLc (mItems (mAp G_inner_nodes (mCons (mVar 0) mNil))) [2] (gNm 2) mYes (mAp G_parts_in' (mCons (mVar 2) (mCons (mVar 1) mNil)))) mNil)))))
noncomputable def G_parts_in : Nat → Fn
  | 0 => fun _ _ => .bad
  | n + 1 => runB 3 (sh_parts_in (G_parts_in n))
noncomputable def sh_sized_term : SS := (mSeq (mPar 1 2 (mCons (mAp (G_depth_in 16) (mCons (mVar 0) (mCons mDNewR mNil))) (mCons (mAp (G_parts_in 16) (mCons (mVar 0) (mCons mDNewR mNil))) mNil)))
  (mSeq (mExpr (mAp G_need_size (mCons (mVar 1) (mCons (mVar 2) mNil))))
  (mRet (mAp (gMake "Term" ["node", "deep", "part_count"]) (mCons (mVar 0) (mCons (mVar 1) (mCons (mVar 2) mNil)))))))
noncomputable def G_sized_term : Fn := runB 3 sh_sized_term
noncomputable def sh_Reader___init__ : SS := (mSeq (mPutF "Reader" "source" (mVar 0) (mVar 1))
  (mPutF "Reader" "place" (mVar 0) (mC (.int 0))))
noncomputable def G_Reader___init__ : Fn := runB 2 sh_Reader___init__
noncomputable def sh_Reader_take : SS := (mSeq (mIf (mNotT (mTru (mStarts3 (mUn (gFld "Reader" "source") (mVar 0)) (mCons (mVar 1) (mCons (mUn (gFld "Reader" "place") (mVar 0)) mNil))))) (mRaise (mAp (gMakeX "InvalidText" p_InvalidText l_InvalidText) (mCons (mC (.int 0)) mNil))) mSkip)
  (mAugF "Reader" "place" (mVar 0) (mAp (g1 gLen) (mCons (mVar 1) mNil))))
noncomputable def G_Reader_take : Fn := runB 2 sh_Reader_take
noncomputable def sh_Reader_letters_here : SS := (mSeq (mAsg (mUn (gFld "Reader" "place") (mVar 0)) (gNm 1))
  (mSeq (mWhileN (mAndT (mBT (gEq true) (mSl (mUn (gFld "Reader" "source") (mVar 0)) (mPart (mUn (gFld "Reader" "place") (mVar 0))) (mPart (mBin gAdd (mUn (gFld "Reader" "place") (mVar 0)) (mC (.int 1))))) (mC (.str ""))) (mBT (gIn false) (mBin gIx (mUn (gFld "Reader" "source") (mVar 0)) (mUn (gFld "Reader" "place") (mVar 0))) (mC c_LETTERS))) (mAugF "Reader" "place" (mVar 0) (mC (.int 1))) 1000)
  (mRet (mSl (mUn (gFld "Reader" "source") (mVar 0)) (mPart (mVar 1)) (mPart (mUn (gFld "Reader" "place") (mVar 0)))))))
noncomputable def G_Reader_letters_here : Fn := runB 2 sh_Reader_letters_here
noncomputable def sh_Reader_pair (G_Reader_part' : Fn) : SS := (mSeq (mExpr (mMeth "Reader" "take" G_Reader_take (mVar 0) (mCons (mC (.str "(")) mNil)))
  (mSeq (mAsg (mMeth "Reader" "part" G_Reader_part' (mVar 0) (mCons (mBin gAdd (mVar 1) (mC (.int 1))) mNil)) (gNm 2))
  (mSeq (mExpr (mMeth "Reader" "take" G_Reader_take (mVar 0) (mCons (mC (.str " ")) mNil)))
  (mSeq (mAsg (mSl (mUn (gFld "Reader" "source") (mVar 0)) (mPart (mUn (gFld "Reader" "place") (mVar 0))) (mPart (mBin gAdd (mUn (gFld "Reader" "place") (mVar 0)) (mC (.int 1))))) (gNm 3))
  (mSeq (mIf (mCInT true k_SIGNS (mVar 3)) (mRaise (mAp (gMakeX "InvalidText" p_InvalidText l_InvalidText) (mCons (mC (.int 0)) mNil))) mSkip)
  (mSeq (mExpr (mMeth "Reader" "take" G_Reader_take (mVar 0) (mCons (mBin gAdd (mVar 3) (mC (.str " "))) mNil)))
  (mSeq (mAsg (mMeth "Reader" "part" G_Reader_part' (mVar 0) (mCons (mBin gAdd (mVar 1) (mC (.int 1))) mNil)) (gNm 4))
  (mSeq (mExpr (mMeth "Reader" "take" G_Reader_take (mVar 0) (mCons (mC (.str ")")) mNil)))
  (mRet (mAp gTup (mCons (mCDict c_SIGNS (mVar 3)) (mCons (mVar 2) (mCons (mVar 4) mNil)))))))))))))
noncomputable def G_Reader_pair (G_Reader_part' : Fn) : Fn := runB 5 (sh_Reader_pair G_Reader_part')
noncomputable def sh_Reader_part (G_Reader_part' : Fn) : SS := (mSeq (mIf (mBT gGt (mVar 1) (mC c_MOST_DEEP)) mNever mSkip)
  (mSeq (mAsg (mSl (mUn (gFld "Reader" "source") (mVar 0)) (mPart (mUn (gFld "Reader" "place") (mVar 0))) (mPart (mBin gAdd (mUn (gFld "Reader" "place") (mVar 0)) (mC (.int 1))))) (gNm 2))
  (mSeq (mIf (mBT (gEq false) (mVar 2) (mC (.str "~"))) (mSeq (mExpr (mMeth "Reader" "take" G_Reader_take (mVar 0) (mCons (mC (.str "~")) mNil)))
  (mRet (mAp gTup (mCons (mC (.str "not")) (mCons (mMeth "Reader" "part" G_Reader_part' (mVar 0) (mCons (mBin gAdd (mVar 1) (mC (.int 1))) mNil)) mNil))))) mSkip)
  (mSeq (mIf (mBT (gEq false) (mVar 2) (mC (.str "("))) (mRet (mMeth "Reader" "pair" (G_Reader_pair G_Reader_part') (mVar 0) (mCons (mVar 1) mNil))) mSkip)
  (mSeq (mAsg (mMeth "Reader" "letters_here" G_Reader_letters_here (mVar 0) mNil) (gNm 3))
  (mSeq (mIf (mBT (gIn false) (mVar 3) (mAp gTup (mCons (mC (.str "all")) (mCons (mC (.str "none")) mNil)))) (mRet (mAp gTup (mCons (mVar 3) mNil))) mSkip)
  (mSeq (mIf (mBT (gIn false) (mVar 3) (mC c_WORDS)) (mSeq (mExpr (mMeth "Reader" "take" G_Reader_take (mVar 0) (mCons (mC (.str "(")) mNil)))
  (mSeq (mAsg (mMeth "Reader" "part" G_Reader_part' (mVar 0) (mCons (mBin gAdd (mVar 1) (mC (.int 1))) mNil)) (gNm 4))
  (mSeq (mExpr (mMeth "Reader" "take" G_Reader_take (mVar 0) (mCons (mC (.str ")")) mNil)))
  (mRet (mAp gTup (mCons (mVar 3) (mCons (mVar 4) mNil))))))) mSkip)
  (mSeq (mIf (mNotT (mTru (mAp G_is_name (mCons (mVar 3) mNil)))) (mRaise (mAp (gMakeX "InvalidText" p_InvalidText l_InvalidText) (mCons (mC (.int 0)) mNil))) mSkip)
  (mRet (mAp gTup (mCons (mC (.str "name")) (mCons (mVar 3) mNil))))))))))))
noncomputable def G_Reader_part : Nat → Fn
  | 0 => fun _ _ => .bad
  | n + 1 => runB 5 (sh_Reader_part (G_Reader_part n))
noncomputable def sh_Term_read : SS := (mSeq (mIf (mNotT (mTru (mAp (gIsi ktB) (mCons (mVar 0) (mCons (mC (.ty "str")) mNil))))) (mRaise (mAp (gMakeX "InvalidText" p_InvalidText l_InvalidText) (mCons (mC (.int 0)) mNil))) mSkip)
  (mSeq (mAsg (mAp (gMakeI "Reader" G_Reader___init__) (mCons (mVar 0) mNil)) (gNm 1))
  (mSeq (mAsg (mMeth "Reader" "part" (G_Reader_part 14) (mVar 1) (mCons (mC (.int 1)) mNil)) (gNm 2))
  (mSeq (mIf (mBT (gEq true) (mUn (gFld "Reader" "place") (mVar 1)) (mAp (g1 gLen) (mCons (mVar 0) mNil))) (mRaise (mAp (gMakeX "InvalidText" p_InvalidText l_InvalidText) (mCons (mC (.int 0)) mNil))) mSkip)
  (mRet (mAp G_sized_term (mCons (mVar 2) mNil)))))))
noncomputable def G_Term_read : Fn := runB 3 sh_Term_read
noncomputable def sh_node_names (G_node_names' : Fn) : SS := (mSeq (mIf (mBT (gEq false) (mBin gIx (mVar 0) (mC (.int 0))) (mC (.str "name"))) (mRet (mDisp (mPCons (mBin gIx (mVar 0) (mC (.int 1))) (mC (.bl true)) mPNil))) mSkip)
  (mSeq (mAsg mDNewR (gNm 1))
  (mSeq (mFor (mItems (mAp G_inner_nodes (mCons (mVar 0) mNil))) (gNm 2) (mExpr (gMetD gDUpd (mVar 1) (mCons (mAp G_node_names' (mCons (mVar 2) mNil)) mNil))))
  (mRet (mVar 1)))))
noncomputable def G_node_names : Nat → Fn
  | 0 => fun _ _ => .bad
  | n + 1 => runB 3 (sh_node_names (G_node_names n))
noncomputable def sh_Term_names : SS := (mRet (mAp (g1 gSrtSR) (mCons (mAp (g1 gListD) (mCons (mAp (G_node_names 10) (mCons (mUn (gFld "Term" "node") (mVar 0)) mNil)) mNil)) mNil)))
noncomputable def G_Term_names : Fn := runB 1 sh_Term_names
noncomputable def sh__law_names_in (G__law_names_in' : Fn) : SS := (mSeq (mAsg (mAp gLstR mNil) (gNm 1))
  (mSeq (mFor (mItems (mVar 0)) (gNm 2) (mIf (mBT (gEq false) (mBin gIx (mVar 2) (mC (.int 0))) (mC (.str "name"))) (mExpr (gMetL gAppend (mVar 1) (mCons (mBin gIx (mVar 2) (mC (.int 1))) mNil))) (mAsg (mBin gAddR (mVar 1) (mAp G__law_names_in' (mCons (mAp (g1 gListOf) (mCons (mSl (mVar 2) (mPart (mC (.int 1))) mNoPart) mNil)) mNil))) (gNm 1))))
  (mRet (mUn gSrtSetS (mVar 1)))))
noncomputable def G__law_names_in : Nat → Fn
  | 0 => fun _ _ => .bad
  | n + 1 => runB 3 (sh__law_names_in (G__law_names_in n))
noncomputable def sh_Term___str__ : SS := (mRet (mFmt (mMeth "Term" "text" G_Term_text (mVar 0) mNil)))
noncomputable def G_Term___str__ : Fn := runB 1 sh_Term___str__
noncomputable def sh_Term_depth : SS := (mRet (mUn (gFld "Term" "deep") (mVar 0)))
noncomputable def G_Term_depth : Fn := runB 1 sh_Term_depth
end LTm
end
section
set_option maxRecDepth 100000
set_option maxHeartbeats 4000000
namespace LTm
open PySem PySem.Spec L2 RL LC LTm OrdX
open PyProof.Rows hiding St
section
variable {S : Store} {a : List Nat} {l : Nat}
/-! ### the reader -/
noncomputable def rdr (a : List Nat) (p : Int) : Ob := .ins "Reader" ["source", "place"] [.str (tx a), .int p]
theorem nsp : (Str.ofString "place" == Str.ofString "source") = false := by decide +kernel
theorem insAt_rdr {p : Int} (h : S[l]? = some (rdr a p)) : insAt S (.ref l) = some (("Reader", ["source", "place"], [.str (tx a), .int p]) : Str × List Str × List W) := by simp [insAt, h, rdr]
theorem src {p : Int} (h : S[l]? = some (rdr a p)) : gFld "Reader" "source" (.ref l) S = .ok (.str (tx a)) S := by
  unfold gFld
  rw [insAt_rdr h]
  simp [List.lookup]
theorem plc {p : Int} (h : S[l]? = some (rdr a p)) : gFld "Reader" "place" (.ref l) S = .ok (.int p) S := by
  unfold gFld
  rw [insAt_rdr h]
  simp [List.lookup, nsp]
theorem putP {p q : Int} (h : S[l]? = some (rdr a p)) : gPut "Reader" "place" (.ref l) (.int q) S = .ok () (S.set l (rdr a q)) := by
  unfold gPut
  simp only [insL, h, rdr]
  rw [if_pos ⟨trivial, by decide, rfl⟩]
  rfl
theorem cut_mid {i j : Nat} (h : i ≤ j) : cutS (tx a) (some (i : Int)) (some (j : Int)) = tx ((a.drop i).take (j - i)) := by
  unfold cutS
  rw [HT.sIx_nat, HT.sIx_nat, tx_len, tx_list]
  show tx _ = _
  rw [tx_inj]
  by_cases hi : i ≤ a.length
  · rw [Nat.min_eq_left hi, List.take_eq_take_iff, List.length_drop]; omega
  · rw [Nat.min_eq_right (a := i) (by omega), List.drop_eq_nil_of_le (Nat.le_refl _), List.drop_eq_nil_of_le (i := i) (by omega), List.take_nil, List.take_nil]
theorem cut_one {i : Nat} : cutS (tx a) (some (i : Int)) (some ((i : Int) + 1)) = tx ((a.drop i).take 1) := by
  have := cut_mid (a := a) (i := i) (j := i + 1) (by omega)
  rw [show i + 1 - i = 1 from by omega] at this
  exact_mod_cast this
theorem starts {i : Nat} {x : List Nat} (h : i ≤ a.length) : Txt.startswith3 (tx a) (tx x) (i : Int) = x.isPrefixOf (a.drop i) := by
  have e : PySem.fromIndex (tx a).length (i : Int) = i := by
    unfold PySem.fromIndex
    rw [if_neg (by omega)]; omega
  unfold Txt.startswith3
  rw [e, tx_len, tx_len]
  rw [Bool.eq_iff_iff, Bool.and_eq_true, decide_eq_true_eq, List.isPrefixOf_iff_prefix]
  unfold PySem.Builtin.Str.subAt
  rw [tx_len, beq_iff_eq]
  have q : ((tx a).cps.extract i (i + x.length) = (tx x).cps) ↔ (a.drop i).take x.length = x := by
    constructor
    · intro z
      have := congrArg Array.toList z
      simpa [tx, List.extract_eq_take_drop] using this
    · intro z
      apply Array.toList_inj.mp
      simpa [tx, List.extract_eq_take_drop] using z
  rw [q]
  constructor
  · rintro ⟨_, e⟩
    exact ⟨(a.drop i).drop x.length, by
      have := List.take_append_drop x.length (a.drop i)
      rwa [e] at this⟩
  · rintro ⟨t, e⟩
    refine ⟨?_, by rw [← e]; simp⟩
    have := congrArg List.length e
    simp at this; omega
@[simp] theorem bind_exc {α β : Type} {c : Str} {ns : List Str} {ws : List W} {K : α → Store → Res β} : (Res.exc c ns ws S : Res α).bind K = .exc c ns ws S := rfl
theorem bad_ok : gMakeX "InvalidText" p_InvalidText l_InvalidText [.int 0] S = .ok (.exn "InvalidText" ["line", "code"] [.int 0, .str "InvalidText"]) S := by rfl
theorem take_ok {i : Nat} {x : List Nat} (h : S[l]? = some (rdr a i)) (hi : i ≤ a.length) (hx : x.length ≤ 100) : G_Reader_take [.ref l, .str (tx x)] S = if x.isPrefixOf (a.drop i) = true then .ok .non (S.set l (rdr a (i + x.length))) else .exc "InvalidText" ["line", "code"] [.int 0, .str "InvalidText"] S := by
  have hl : x.length ≤ lim := Nat.le_trans hx (by decide)
  cases hp : x.isPrefixOf (a.drop i)
  · simp [G_Reader_take, runB_eq, startW, sh_Reader_take, mStarts3, src h, plc h, twoSI, starts hi, truW, mRaise, hp, bad_ok]
  · simp [G_Reader_take, runB_eq, startW, sh_Reader_take, mStarts3, src h, plc h, twoSI, starts hi, truW, mRaise, hp, mAugF, hl, putP h]
theorem set_same {o : Ob} (h : S[l]? = some o) : S.set l o = S := by
  apply List.ext_getElem?
  intro i
  rw [List.getElem?_set]
  split
  · rename_i e; subst e; rw [h]; split
    · rfl
    · rename_i z; rw [List.getElem?_eq_none (by omega)] at h; cases h
  · rfl
@[simp] theorem mAndT_eq' {m n : SM Bool} {s : Env'} : mAndT m n s S = (m s S).bind fun b S1 => if b = true then n s S1 else .ok false S1 := rfl
noncomputable abbrev ncL : SM Bool := (mAndT (mBT (gEq true) (mSl (mUn (gFld "Reader" "source") (mVar 0)) (mPart (mUn (gFld "Reader" "place") (mVar 0))) (mPart (mBin gAdd (mUn (gFld "Reader" "place") (mVar 0)) (mC (.int 1))))) (mC (.str ""))) (mBT (gIn false) (mBin gIx (mUn (gFld "Reader" "source") (mVar 0)) (mUn (gFld "Reader" "place") (mVar 0))) (mC c_LETTERS)))
theorem lets_cons (c : Nat) (r : List Nat) : lets (c :: r) = if c ∈ lettersL then c :: lets r else [] := by
  unfold lets
  rw [List.takeWhile_cons]
  by_cases h : c ∈ lettersL <;> simp [h]
theorem e_str : Str.ofString "" = tx [] := lit_eq rfl
theorem letters_loop (ha : a.length ≤ 900) (o : Option W) : ∀ (k n i : Nat) (S : Store), (lets (a.drop i)).length = k → k < n → i ≤ a.length → S[l]? = some (rdr a i) → mWhileN ncL (mAugF "Reader" "place" (mVar 0) (mC (.int 1))) n [some (.ref l), o] S = .ok (.nx, [some (.ref l), o]) (S.set l (rdr a ((i + k : Nat) : Int)))
  | k, 0, _, _, _, h, _, _ => absurd h (Nat.not_lt_zero _)
  | k, n + 1, i, S, hk, hn, hi, h => by
    have hl : a.length ≤ lim := Nat.le_trans ha (by decide)
    unfold mWhileN
    cases e : a.drop i with
    | nil =>
      rw [e] at hk
      subst hk
      simp [src h, plc h, hl, cut_one, e, e_str]
      exact (set_same h).symm
    | cons c r =>
      have hi' : i < a.length := by
        have := congrArg List.length e
        simp at this; omega
      have hc : a[i]? = some c := by
        have := congrArg (fun z => z[0]?) e
        simpa using this
      have hat : atI a (i : Int) = some c := by rw [atI_nat (Int.natCast_nonneg i)]; exact hc
      have hr : a.drop (i + 1) = r := by rw [← List.drop_drop, e]; rfl
      rw [e, lets_cons] at hk
      by_cases hm : c ∈ lettersL
      · rw [if_pos hm] at hk
        simp at hk
        have hS := List.getElem?_set_self (a := rdr a ((i : Int) + 1)) (get_len h)
        have ih := letters_loop ha o (lets r).length n (i + 1) (S.set l (rdr a ((i : Int) + 1))) (by rw [hr]) (by omega) (by omega) (by exact_mod_cast hS)
        simp [src h, plc h, hl, cut_one, e, e_str, hat, letters_eq, gIn_sign, hm, mAugF, putP h]
        rw [ih, List.set_set]
        congr 3
        omega
      · rw [if_neg hm] at hk
        subst hk
        simp [src h, plc h, hl, cut_one, e, e_str, hat, letters_eq, gIn_sign, hm]
        exact (set_same h).symm
theorem letters_ok {i : Nat} (ha : a.length ≤ 900) (hi : i ≤ a.length) (h : S[l]? = some (rdr a i)) : G_Reader_letters_here [.ref l] S = .ok (.str (tx (lets (a.drop i)))) (S.set l (rdr a ((i + (lets (a.drop i)).length : Nat) : Int))) := by
  have hl : a.length ≤ lim := Nat.le_trans ha (by decide)
  have hle : (lets (a.drop i)).length ≤ a.length := by
    have := congrArg List.length (let_cat (a.drop i))
    simp at this; omega
  have hlp := letters_loop ha (some (.int (i : Int))) _ 1000 i S rfl (by omega) hi h
  have hS := List.getElem?_set_self (a := rdr a ((i + (lets (a.drop i)).length : Nat) : Int)) (get_len h)
  have hcut := cut_mid (a := a) (i := i) (j := i + (lets (a.drop i)).length) (by omega)
  have ht : (a.drop i).take (lets (a.drop i)).length = lets (a.drop i) := by
    have := List.take_left (l₁ := lets (a.drop i)) (l₂ := aft (a.drop i))
    rwa [let_cat] at this
  rw [show i + (lets (a.drop i)).length - i = (lets (a.drop i)).length from by omega, ht] at hcut
  simp [G_Reader_letters_here, runB_eq, startW, sh_Reader_letters_here, plc h]
  rw [hlp]
  rw [ok_bind, seqK_nx, mRet_eq, mSl_eq, mUn_eq, mVar_0, ok_bind, src hS, ok_bind]
  have e1 : mPart (mVar 1) [some (.ref l), some (.int (i : Int))] (S.set l (rdr a ((i + (lets (a.drop i)).length : Nat) : Int))) = .ok (some (i : Int)) (S.set l (rdr a ((i + (lets (a.drop i)).length : Nat) : Int))) := rfl
  have e2 : mPart (mUn (gFld "Reader" "place") (mVar 0)) [some (.ref l), some (.int (i : Int))] (S.set l (rdr a ((i + (lets (a.drop i)).length : Nat) : Int))) = .ok (some ((i + (lets (a.drop i)).length : Nat) : Int)) (S.set l (rdr a ((i + (lets (a.drop i)).length : Nat) : Int))) := by
    unfold mPart
    rw [mUn_eq, mVar_0, ok_bind, plc hS]; rfl
  rw [e1, ok_bind, e2, ok_bind, gSl_str, tx_len, if_pos hl, hcut]; rfl
end
end LTm
end
section
set_option maxRecDepth 100000
set_option maxHeartbeats 4000000
namespace LTm
open PySem PySem.Spec L2 RL LC LTm OrdX
open PyProof.Rows hiding St
section
variable {S : Store} {a : List Nat} {l : Nat}
/-- a reading's outcome: the form and the rest, or the wrong text -/
noncomputable def Rd (a : List Nat) (l : Nat) (S : Store) (o : PR) (r : Res W) : Prop := match o with
  | .ok f t => ∃ p : Nat, p ≤ a.length ∧ a.drop p = t ∧ r = .ok (toW f) (S.set l (rdr a (p : Int)))
  | .err => ∃ p : Nat, r = .exc "InvalidText" ["line", "code"] [.int 0, .str "InvalidText"] (S.set l (rdr a (p : Int)))
  | .fuel => True
theorem Rd.bind {o : PR} {r : Res W} {k : Form → List Nat → PR} {K : W → Store → Res W} (h : Rd a l S o r) (hk : ∀ f t (p : Nat), p ≤ a.length → a.drop p = t → Rd a l S (k f t) (K (toW f) (S.set l (rdr a (p : Int))))) : Rd a l S (o.andThen k) (r.bind K) := by
  cases o with
  | ok f t =>
    obtain ⟨p, h1, h2, rfl⟩ := h
    exact hk f t p h1 h2
  | err =>
    obtain ⟨p, rfl⟩ := h
    exact ⟨p, rfl⟩
  | fuel => exact True.intro
theorem Rd.bad {i : Nat} : Rd a l S .err (.exc "InvalidText" ["line", "code"] [.int 0, .str "InvalidText"] (S.set l (rdr a (i : Int)))) := ⟨i, rfl⟩
theorem at_ (hl : l < S.length) {p : Int} : (S.set l (rdr a p))[l]? = some (rdr a p) := List.getElem?_set_self hl
theorem Rd.take (hS : l < S.length) {i : Nat} {x : List Nat} {k : List Nat → PR} {K : W → Store → Res W} (hi : i ≤ a.length) (hx : x.length ≤ 100) (hk : ∀ t (p : Nat), p ≤ a.length → a.drop p = t → a.drop i = x ++ t → Rd a l S (k t) (K .non (S.set l (rdr a (p : Int))))) : Rd a l S (onO (eat x (a.drop i)) k) ((G_Reader_take [.ref l, .str (tx x)] (S.set l (rdr a (i : Int)))).bind K) := by
  rw [take_ok (at_ hS) hi hx, List.set_set]
  cases hp : x.isPrefixOf (a.drop i) with
  | true =>
    obtain ⟨t, ht⟩ := List.isPrefixOf_iff_prefix.mp hp
    have hd : a.drop (i + x.length) = t := by rw [← List.drop_drop, ← ht, List.drop_left]
    have hlen : i + x.length ≤ a.length := by
      have := congrArg List.length ht
      simp at this; omega
    unfold eat
    rw [if_pos hp, if_pos rfl]
    show Rd a l S (k ((a.drop i).drop x.length)) _
    rw [List.drop_drop, hd, ok_bind]
    exact hk t (i + x.length) hlen hd ht.symm
  | false =>
    unfold eat
    rw [if_neg (by rw [hp]; decide), if_neg (by decide)]
    exact ⟨i, rfl⟩
theorem sig_look (b : B) : c_SIGNS.lookup (tx [b.sign]) = some b.w.s := by cases b <;> decide +kernel
theorem sig_in (b : B) : tx [b.sign] ∈ k_SIGNS := by cases b <;> decide +kernel
theorem sig_no {r : List Nat} (h : sgn r = none) : tx (r.take 1) ∉ k_SIGNS := by
  have e : k_SIGNS = [tx [124], tx [38], tx [45]] := by decide +kernel
  rw [e]
  cases r with
  | nil => simp
  | cons c q =>
    have h1 : c ≠ 124 := fun z => by subst z; cases h
    have h2 : c ≠ 38 := fun z => by subst z; cases h
    have h3 : c ≠ 45 := fun z => by subst z; cases h
    simp [h1, h2, h3]
theorem sgn_some {r : List Nat} {b : B} (h : sgn r = some b) : ∃ q, r = b.sign :: q := by
  unfold sgn at h
  split at h <;> first | (cases h; exact ⟨_, rfl⟩) | cases h
theorem e_par : Str.ofString "(" = tx [40] := lit_eq rfl
theorem e_end : Str.ofString ")" = tx [41] := lit_eq rfl
theorem e_spc : Str.ofString " " = tx [32] := lit_eq rfl
theorem e_til : Str.ofString "~" = tx [126] := lit_eq rfl
theorem methK_rdr {p : Int} {m : Str} {g : Fn} {mr : SM (List W)} {s : Env'} (h : S[l]? = some (rdr a p)) (hm : (["source", "place"] : List Str).contains m = false) : methK "Reader" m g mr s (.ref l) S = (mr s S).bind fun us S2 => g (.ref l :: us) S2 := by
  unfold methK
  rw [insAt_rdr h]
  dsimp only
  rw [if_pos ⟨rfl, hm⟩]
theorem pair_ok (ha : a.length ≤ 900) (hS : l < S.length) {n : Nat} {G : Fn} {lev : Int} (ih : ∀ (i : Nat), i ≤ a.length → Rd a l S (pPart n (a.drop i)) (G [.ref l, .int (lev + 1)] (S.set l (rdr a (i : Int))))) {i : Nat} {q : List Nat} (hi : i ≤ a.length) (hq : a.drop i = 40 :: q) :
    Rd a l S (pPair (pPart n) q) (G_Reader_pair G [.ref l, .int lev] (S.set l (rdr a (i : Int)))) := by
  have hl : a.length ≤ lim := Nat.le_trans ha (by decide)
  have m1 : ∀ {p : Int} {g : Fn} {mr : SM (List W)} {s : Env'}, methK "Reader" "take" g mr s (.ref l) (S.set l (rdr a p)) = (mr s (S.set l (rdr a p))).bind fun us S2 => g (.ref l :: us) S2 := methK_rdr (at_ hS) (by decide +kernel)
  have m2 : ∀ {p : Int} {g : Fn} {mr : SM (List W)} {s : Env'}, methK "Reader" "part" g mr s (.ref l) (S.set l (rdr a p)) = (mr s (S.set l (rdr a p))).bind fun us S2 => g (.ref l :: us) S2 := methK_rdr (at_ hS) (by decide +kernel)
  have fs : ∀ {p : Int}, gFld "Reader" "source" (.ref l) (S.set l (rdr a p)) = .ok (.str (tx a)) (S.set l (rdr a p)) := src (at_ hS)
  have fp : ∀ {p : Int}, gFld "Reader" "place" (.ref l) (S.set l (rdr a p)) = .ok (.int p) (S.set l (rdr a p)) := plc (at_ hS)
  simp [G_Reader_pair, runB_eq, startW, sh_Reader_pair, m1, e_par, e_spc, e_end, Res.bind_assoc]
  rw [show pPair (pPart n) q = onO (eat [40] (a.drop i)) (pPair (pPart n)) from by rw [hq]; rfl]
  refine Rd.take hS hi (by decide) fun t p hp ht _ => ?_
  subst ht
  simp [m2]
  unfold pPair
  refine Rd.bind (ih p hp) fun f t p2 hp2 ht => ?_
  subst ht
  simp [m1]
  refine Rd.take hS hp2 (by decide) fun t p3 hp3 ht _ => ?_
  subst ht
  simp [fs, fp, hl, cut_one, mCInT, mCIn, asB]
  cases hb : sgn (a.drop p3) with
  | none =>
    have e := sig_no hb
    simp [e, mRaise, bad_ok]
    exact Rd.bad
  | some b =>
    obtain ⟨r, hr⟩ := sgn_some hb
    have e := sig_in b
    have hc : (a.drop p3).take 1 = [b.sign] := by rw [hr]; rfl
    show Rd a l S (onO (eat [b.sign, 32] (a.drop p3)) _) _
    simp [hc, e, m1, Res.bind_assoc, show (2 : Nat) ≤ lim from by decide]
    refine Rd.take hS hp3 (by simp) fun t p4 hp4 ht _ => ?_
    subst ht
    simp [m2]
    refine Rd.bind (ih p4 hp4) fun g t p5 hp5 ht => ?_
    subst ht
    simp [m1]
    refine Rd.take hS hp5 (by decide) fun t p6 hp6 ht _ => ?_
    simp [mCDict, sig_look]
    exact ⟨p6, hp6, ht, rfl⟩
theorem in_w2 {x : List Nat} {b c : Wd} : gIn false (.str (tx x)) (.tup [.str b.s, .str c.s]) S = .ok (.bl (decide (x = b.c ∨ x = c.c))) S := by
  rw [gIn_strs (ys := [b.s, c.s]) rfl, xorB_f]
  congr 2
  rw [decide_eq_decide, List.mem_cons, List.mem_cons, s_tx, s_tx, tx_inj, tx_inj]
  simp
theorem in_w3 {x : List Nat} : gIn false (.str (tx x)) c_WORDS S = .ok (.bl (decide (x = Wd.closed.c ∨ x = Wd.opn.c ∨ x = Wd.rim.c))) S := by
  rw [words_eq, gIn_strs (ys := [Wd.closed.s, Wd.opn.s, Wd.rim.s]) rfl, xorB_f]
  congr 2
  rw [decide_eq_decide, List.mem_cons, List.mem_cons, List.mem_cons, s_tx, s_tx, s_tx, tx_inj, tx_inj, tx_inj]
  simp
theorem Rd.ret {o : PR} {r : Res W} {K : W → Store → Res W} (h : Rd a l S o r) (hk : ∀ w T, K w T = .ok w T) : Rd a l S o (r.bind K) := by
  have : r.bind K = r := by cases r <;> simp [Res.bind, hk]
  rw [this]; exact h
theorem part_else {n : Nat} : ∀ {r : List Nat}, r.take 1 ≠ [126] → r.take 1 ≠ [40] → pPart (n + 1) r = pWord (pPart n) (lets r) (aft r) := by
  intro r h1 h2
  unfold pPart
  split
  · exact absurd rfl h1
  · exact absurd rfl h2
  · rfl
theorem part_ok (ha : a.length ≤ 900) (hS : l < S.length) : ∀ (n : Nat) (lev : Int) (i : Nat), lev + n ≤ 41 → i ≤ a.length → Rd a l S (pPart n (a.drop i)) (G_Reader_part n [.ref l, .int lev] (S.set l (rdr a (i : Int))))
  | 0, _, _, _, _ => True.intro
  | n + 1, lev, i, hlev, hi => by
    have hl : a.length ≤ lim := Nat.le_trans ha (by decide)
    have m1 : ∀ {p : Int} {g : Fn} {mr : SM (List W)} {s : Env'}, methK "Reader" "take" g mr s (.ref l) (S.set l (rdr a p)) = (mr s (S.set l (rdr a p))).bind fun us S2 => g (.ref l :: us) S2 := methK_rdr (at_ hS) (by decide +kernel)
    have m2 : ∀ {p : Int} {g : Fn} {mr : SM (List W)} {s : Env'}, methK "Reader" "part" g mr s (.ref l) (S.set l (rdr a p)) = (mr s (S.set l (rdr a p))).bind fun us S2 => g (.ref l :: us) S2 := methK_rdr (at_ hS) (by decide +kernel)
    have m3 : ∀ {p : Int} {g : Fn} {mr : SM (List W)} {s : Env'}, methK "Reader" "pair" g mr s (.ref l) (S.set l (rdr a p)) = (mr s (S.set l (rdr a p))).bind fun us S2 => g (.ref l :: us) S2 := methK_rdr (at_ hS) (by decide +kernel)
    have m4 : ∀ {p : Int} {g : Fn} {mr : SM (List W)} {s : Env'}, methK "Reader" "letters_here" g mr s (.ref l) (S.set l (rdr a p)) = (mr s (S.set l (rdr a p))).bind fun us S2 => g (.ref l :: us) S2 := methK_rdr (at_ hS) (by decide +kernel)
    have fs : ∀ {p : Int}, gFld "Reader" "source" (.ref l) (S.set l (rdr a p)) = .ok (.str (tx a)) (S.set l (rdr a p)) := src (at_ hS)
    have fp : ∀ {p : Int}, gFld "Reader" "place" (.ref l) (S.set l (rdr a p)) = .ok (.int p) (S.set l (rdr a p)) := plc (at_ hS)
    have ih := part_ok ha hS n (lev + 1)
    have hlev' : ∀ i, i ≤ a.length → Rd a l S (pPart n (a.drop i)) (G_Reader_part n [.ref l, .int (lev + 1)] (S.set l (rdr a (i : Int)))) := fun i hi => ih i (by push_cast at hlev; omega) hi
    have h40 : ¬ (lev > 40) := by push_cast at hlev; omega
    have lt := letters_ok ha hi (at_ (S := S) (a := a) hS (p := (i : Int)))
    rw [List.set_set] at lt
    have hw : ∀ x, a.drop i = x ++ aft (a.drop i) → x = lets (a.drop i) → a.drop (i + (lets (a.drop i)).length) = aft (a.drop i) ∧ i + (lets (a.drop i)).length ≤ a.length := fun x e hx => by
      subst hx
      have := congrArg List.length e
      simp at this
      exact ⟨by
        have := List.drop_left (l₁ := lets (a.drop i)) (l₂ := aft (a.drop i))
        rw [let_cat] at this
        rw [← List.drop_drop]; exact this, by omega⟩
    obtain ⟨hw1, hw2⟩ := hw _ (let_cat _).symm rfl
    simp [G_Reader_part, runB_eq, startW, sh_Reader_part, fs, fp, hl, cut_one, e_par, e_end, e_til, Res.bind_assoc, c_MOST_DEEP, h40]
    by_cases c1 : (a.drop i).take 1 = [126]
    · obtain ⟨q, hq⟩ : ∃ q, a.drop i = 126 :: q := by
        cases e : a.drop i with
        | nil => rw [e] at c1; cases c1
        | cons c r => rw [e] at c1; cases c1; exact ⟨r, rfl⟩
      have e : pPart (n + 1) (a.drop i) = onO (eat [126] (a.drop i)) fun r => (pPart n r).andThen fun f t => .ok (.un .not f) t := by rw [hq]; rfl
      rw [e]
      simp [c1, m1, Res.bind_assoc]
      refine Rd.take hS hi (by decide) fun t p hp ht _ => ?_
      subst ht
      simp [m2]
      refine Rd.bind (hlev' p hp) fun f t p2 hp2 ht => ?_
      exact ⟨p2, hp2, ht, rfl⟩
    · by_cases c2 : (a.drop i).take 1 = [40]
      · obtain ⟨q, hq⟩ : ∃ q, a.drop i = 40 :: q := by
          cases e : a.drop i with
          | nil => rw [e] at c2; cases c2
          | cons c r => rw [e] at c2; cases c2; exact ⟨r, rfl⟩
        have pr := pair_ok ha hS hlev' hi hq
        rw [hq, part_pair]
        rw [hq] at c1
        simp [hq, m3, Res.bind_assoc]
        exact Rd.ret pr fun _ _ => rfl
      · rw [part_else c1 c2]
        generalize hx : lets (a.drop i) = x at lt hw1 hw2 ⊢
        generalize aft (a.drop i) = t at hw1 ⊢
        generalize i + x.length = p1 at lt hw1 hw2
        have hxl : x.length ≤ lim := by
          have := congrArg List.length (let_cat (a.drop i))
          rw [hx] at this
          simp at this; omega
        simp [c1, c2, m4, Res.bind_assoc, lt, in_w2, in_w3]
        unfold pWord
        by_cases q1 : x = Wd.all.c
        · rw [if_pos q1]
          simp [q1]
          exact ⟨p1, hw2, hw1, rfl⟩
        · rw [if_neg q1]
          by_cases q2 : x = Wd.none.c
          · rw [if_pos q2]
            simp [q1, q2]
            exact ⟨p1, hw2, hw1, rfl⟩
          · rw [if_neg q2]
            cases hu : uOf x with
            | some u =>
              obtain ⟨hxu, hn⟩ := uOf_some hu
              have hin : x = Wd.closed.c ∨ x = Wd.opn.c ∨ x = Wd.rim.c := by
                cases u
                · exact absurd rfl hn
                · exact .inl hxu
                · exact .inr (.inl hxu)
                · exact .inr (.inr hxu)
              have hws : (W.str (tx x)) = .str u.w.s := by rw [hxu, s_tx]
              simp [q1, q2, hin, in_w3, m1, Res.bind_assoc]
              subst hw1
              refine Rd.take hS hw2 (by decide) fun t p hp ht _ => ?_
              subst ht
              simp [m2]
              refine Rd.bind (hlev' p hp) fun f t p2 hp2 ht => ?_
              subst ht
              simp [m1]
              refine Rd.take hS hp2 (by decide) fun t p3 hp3 ht _ => ?_
              refine ⟨p3, hp3, ht, ?_⟩
              rw [hws]; rfl
            | none =>
              have hin : ¬ (x = Wd.closed.c ∨ x = Wd.opn.c ∨ x = Wd.rim.c) := by
                unfold uOf at hu
                split at hu
                · cases hu
                · rename_i n1
                  split at hu
                  · cases hu
                  · rename_i n2
                    split at hu
                    · cases hu
                    · rename_i n3
                      exact fun z => z.elim n1 fun z => z.elim n2 n3
              have hnm := is_name_tx (S := S.set l (rdr a (p1 : Int))) hxl
              cases hb : nameL x with
              | true =>
                rw [hb] at hnm
                simp [q1, q2, hin, in_w3, hnm, truW]
                exact ⟨p1, hw2, hw1, rfl⟩
              | false =>
                rw [hb] at hnm
                simp [q1, q2, hin, in_w3, hnm, truW, mRaise, bad_ok]
                exact Rd.bad
end
end LTm
end
section
set_option maxRecDepth 100000
set_option maxHeartbeats 4000000
namespace LTm
open PySem PySem.Spec L2 RL LC LTm OrdX
open PyProof.Rows hiding St
section
variable {S : Store} {l : Nat}
theorem dget_no {x : Str} {w : W} (h : S[l]? = some (dicO [])) : gDGet2 (.ref l) (.str x) w S = .ok w S := by
  simp [gDGet2, dicAt_ref, dicO_at h]
  rfl
theorem depth_ok (h : S[l]? = some (dicO [])) : ∀ (f : Form) (n : Nat), dep f ≤ n → G_depth_in n [toW f, .ref l] S = .ok (.int (dep f)) S
  | f, 0, hd => absurd (dep_pos f) (by omega)
  | .all, n + 1, hd => by
    have hi := inner_ok (S := S) .all
    simp [toW, LTm.kids] at hi
    simp [G_depth_in, runB_eq, sh_depth_in, startW, toW, hi, dep, wipeW, gMax, intsW, LTm.kids]
  | .none, n + 1, hd => by
    have hi := inner_ok (S := S) .none
    simp [toW, LTm.kids] at hi
    simp [G_depth_in, runB_eq, sh_depth_in, startW, toW, hi, dep, wipeW, gMax, intsW, LTm.kids]
  | .name x, n + 1, hd => by
    simp [G_depth_in, runB_eq, sh_depth_in, startW, toW, dep, mDGet2, dicAt_ref, dicO_at h, dget_no h]
  | .un u f, n + 1, hd => by
    have hi := inner_ok (S := S) (.un u f)
    have ih := depth_ok h f n (by simp [dep] at hd; omega)
    simp [toW, LTm.kids] at hi
    have hu : u.w ≠ Wd.name := by cases u <;> decide
    simp [G_depth_in, runB_eq, sh_depth_in, startW, toW, hi, dep, hu, wipeW, gMax, intsW, LTm.kids, ih]
    omega
  | .bin b f g, n + 1, hd => by
    have hi := inner_ok (S := S) (.bin b f g)
    have ih := depth_ok h f n (by simp [dep] at hd; omega)
    have ih' := depth_ok h g n (by simp [dep] at hd; omega)
    simp [toW, LTm.kids] at hi
    have hu : b.w ≠ Wd.name := by cases b <;> decide
    simp [G_depth_in, runB_eq, sh_depth_in, startW, toW, hi, dep, hu, wipeW, gMax, intsW, LTm.kids, ih, ih']
    omega
theorem parts_ok (h : S[l]? = some (dicO [])) : ∀ (f : Form) (n : Nat), dep f ≤ n → G_parts_in n [toW f, .ref l] S = .ok (.int (prt f)) S
  | f, 0, hd => absurd (dep_pos f) (by omega)
  | .all, n + 1, hd => by
    have hi := inner_ok (S := S) .all
    simp [toW, LTm.kids] at hi
    simp [G_parts_in, runB_eq, sh_parts_in, startW, toW, hi, prt, wipeW, gSum, intsW, LTm.kids]
  | .none, n + 1, hd => by
    have hi := inner_ok (S := S) .none
    simp [toW, LTm.kids] at hi
    simp [G_parts_in, runB_eq, sh_parts_in, startW, toW, hi, prt, wipeW, gSum, intsW, LTm.kids]
  | .name x, n + 1, hd => by
    simp [G_parts_in, runB_eq, sh_parts_in, startW, toW, prt, mDGet2, dicAt_ref, dicO_at h, dget_no h]
  | .un u f, n + 1, hd => by
    have hi := inner_ok (S := S) (.un u f)
    have ih := parts_ok h f n (by simp [dep] at hd; omega)
    simp [toW, LTm.kids] at hi
    have hu : u.w ≠ Wd.name := by cases u <;> decide
    simp [G_parts_in, runB_eq, sh_parts_in, startW, toW, hi, prt, hu, wipeW, gSum, intsW, LTm.kids, ih]
    omega
  | .bin b f g, n + 1, hd => by
    have hi := inner_ok (S := S) (.bin b f g)
    have ih := parts_ok h f n (by simp [dep] at hd; omega)
    have ih' := parts_ok h g n (by simp [dep] at hd; omega)
    simp [toW, LTm.kids] at hi
    have hu : b.w ≠ Wd.name := by cases b <;> decide
    simp [G_parts_in, runB_eq, sh_parts_in, startW, toW, hi, prt, hu, wipeW, gSum, intsW, LTm.kids, ih, ih']
    omega
theorem sized_ok {f : Form} (hd : dep f ≤ 16) (hp : prt f ≤ 2000) : G_sized_term [toW f] S = .ok (termW f) (S ++ [dicO []] ++ [dicO []]) := by
  have h1 : (S ++ [dicO []])[S.length]? = some (dicO []) := by simp
  have h2 : (S ++ [dicO []] ++ [dicO []])[S.length + 1]? = some (dicO []) := by simp
  have e1 := depth_ok h1 f 16 hd
  have e2 := parts_ok h2 f 16 hd
  simp at e1 e2
  simp [G_sized_term, runB_eq, sh_sized_term, startW, mDNewR, e1, e2, mPar, need_ok (S := S ++ [dicO [], dicO []]) (i := dep f) (j := prt f) (by omega) (by omega), termW]
end
end LTm
end
section
set_option maxRecDepth 100000
set_option maxHeartbeats 4000000
namespace LTm
open PySem PySem.Spec L2 RL LC LTm OrdX
open PyProof.Rows hiding St
section
variable {S : Store} {a : List Nat} {l : Nat}
theorem prt_txt : ∀ {f : Form}, LTm.Good f → prt f ≤ (txt f).length
  | .all, _ => by simp [prt, txt, Wd.c]
  | .none, _ => by simp [prt, txt, Wd.c]
  | .name x, g => by
    have := (nameL_let g).2.1
    simp [prt, txt]
    cases x with
    | nil => exact absurd rfl this
    | cons c r => simp
  | .un u f, g => by
    have ih := prt_txt (f := f) g
    cases u <;> simp [prt, txt] <;> omega
  | .bin b f g, h => by
    have h1 := prt_txt h.1
    have h2 := prt_txt h.2
    rw [txt_bin]; simp [prt]; omega
theorem init_ok : G_Reader___init__ [.ref S.length, .str (tx a)] (S ++ [.ins "Reader" [] []]) = .ok .non (S ++ [rdr a 0]) := by
  have g0 : (S ++ [Ob.ins "Reader" [] []])[S.length]? = some (.ins "Reader" [] []) := by simp
  have p1 : gPut "Reader" "source" (.ref S.length) (.str (tx a)) (S ++ [Ob.ins "Reader" [] []]) = .ok () (S ++ [.ins "Reader" ["source"] [.str (tx a)]]) := by
    unfold gPut
    simp only [insL, g0]
    rw [if_pos ⟨trivial, by decide, rfl⟩]
    simp [putA, insO]
  have g1 : (S ++ [Ob.ins "Reader" ["source"] [.str (tx a)]])[S.length]? = some (.ins "Reader" ["source"] [.str (tx a)]) := by simp
  have p2 : gPut "Reader" "place" (.ref S.length) (.int 0) (S ++ [Ob.ins "Reader" ["source"] [.str (tx a)]]) = .ok () (S ++ [rdr a 0]) := by
    unfold gPut
    simp only [insL, g1]
    rw [if_pos ⟨trivial, by decide, rfl⟩]
    have : ("source" : Str) ≠ "place" := by decide +kernel
    simp [putA, insO, rdr, this]
  simp [G_Reader___init__, runB_eq, startW, sh_Reader___init__, mPutF, p1, p2]
noncomputable abbrev badT (T : Store) : Res W := .exc "InvalidText" ["line", "code"] [.int 0, .str "InvalidText"] T
/-- what a reading gives -/
noncomputable def RdQ (o : PR) (S : Store) (r : Res W) : Prop := match o with
  | .ok f _ => ∃ R, noCloS R = true ∧ r = .ok (termW f) (S ++ R)
  | .err => ∃ R, noCloS R = true ∧ r = badT (S ++ R)
  | .fuel => True
theorem set_end {o o' : Ob} : (S ++ [o]).set S.length o' = S ++ [o'] := by simp
theorem read_run (ha : a.length ≤ 900) : RdQ (pRead 14 a) S (G_Term_read [.str (tx a)] S) := by
  have hl : a.length ≤ lim := Nat.le_trans ha (by decide)
  have at0 : ∀ {p : Int}, (S ++ [rdr a p])[S.length]? = some (rdr a p) := by intro p; simp
  have hp := part_ok (S := S ++ [rdr a 0]) (l := S.length) (a := a) ha (by simp) 14 1 0 (by decide) (by omega)
  rw [List.drop_zero, show ((0 : Nat) : Int) = 0 from rfl, set_end] at hp
  have m2 : ∀ {p : Int} {g : Fn} {mr : SM (List W)} {s : Env'}, methK "Reader" "part" g mr s (.ref S.length) (S ++ [rdr a p]) = (mr s (S ++ [rdr a p])).bind fun us S2 => g (.ref S.length :: us) S2 := methK_rdr at0 (by decide +kernel)
  have fp : ∀ {p : Int}, gFld "Reader" "place" (.ref S.length) (S ++ [rdr a p]) = .ok (.int p) (S ++ [rdr a p]) := plc at0
  simp [G_Term_read, runB_eq, startW, sh_Term_read, isi_str, truW, gMakeI, init_ok, m2]
  unfold pRead
  cases e : pPart 14 a with
  | fuel => exact True.intro
  | err =>
    rw [e] at hp
    obtain ⟨p, hp⟩ := hp
    rw [set_end] at hp
    rw [hp]
    exact ⟨[rdr a p], rfl, rfl⟩
  | ok f t =>
    rw [e] at hp
    obtain ⟨p, h1, h2, hp⟩ := hp
    rw [set_end] at hp
    obtain ⟨q1, q2, q3⟩ := p_sound _ _ _ _ e
    rw [hp]
    have hpt : prt f ≤ 2000 := by
      have := prt_txt q3
      have := congrArg List.length q1
      simp at this; omega
    by_cases ht : t = []
    · have hpe : p = a.length := by
        rw [ht, List.drop_eq_nil_iff] at h2; omega
      show RdQ (if t = [] then PR.ok f [] else PR.err) S _
      rw [if_pos ht]
      subst hpe
      simp [fp, hl, sized_ok (f := f) (by omega) hpt]
      exact ⟨[rdr a a.length, dicO [], dicO []], rfl, rfl⟩
    · have hpe : ¬ ((p : Int) = a.length) := fun z => ht (by rw [← h2, List.drop_eq_nil_iff]; omega)
      have hpe' : p ≠ a.length := fun z => hpe (by rw [z])
      show RdQ (if t = [] then PR.ok f [] else PR.err) S _
      rw [if_neg ht]
      simp [fp, hl, mRaise, bad_ok]
      rw [if_neg hpe]
      exact ⟨[rdr a p], rfl, rfl⟩
end
end LTm
end
section
set_option maxRecDepth 100000
set_option maxHeartbeats 4000000
namespace LTm
open PySem PySem.Spec L2 RL LC LTm OrdX
open PyProof.Rows hiding St
theorem insU_len {α : Type} {lt : α → α → Bool} (x : α) : ∀ l : List α, (insU lt x l).length ≤ l.length + 1
  | [] => Nat.le_refl _
  | y :: r => by
    unfold insU
    split
    · have := insU_len (lt := lt) x r; simp only [List.length_cons]; omega
    · split <;> simp only [List.length_cons] <;> omega
theorem usrt_le {α : Type} {lt : α → α → Bool} : ∀ l : List α, (usrt lt l).length ≤ l.length
  | [] => Nat.le_refl _
  | x :: r => by
    have := usrt_le (lt := lt) r
    have h := insU_len (lt := lt) x (usrt lt r)
    rw [usrt, List.length_cons]
    omega
/-! ### the names of a form -/
noncomputable def NM : Form → List Str
  | .name x => [tx x]
  | .un _ f => NM f
  | .bin _ f g => NM f ++ NM g
  | _ => []
theorem NM_le : ∀ f : Form, (NM f).length ≤ 2 ^ dep f
  | .all => by simp [NM]
  | .none => by simp [NM]
  | .name _ => by simp [NM, dep]
  | .un u f => by
    have h := NM_le f
    have hp : 2 ^ (dep f + 1) = 2 * 2 ^ dep f := by rw [Nat.pow_succ, Nat.mul_comm]
    simp only [dep, hp, NM]; omega
  | .bin b f g => by
    have h := NM_le f
    have h' := NM_le g
    have h1 : 2 ^ dep f ≤ 2 ^ max (dep f) (dep g) := Nat.pow_le_pow_right (by decide) (by omega)
    have h2 : 2 ^ dep g ≤ 2 ^ max (dep f) (dep g) := Nat.pow_le_pow_right (by decide) (by omega)
    have hp : 2 ^ (max (dep f) (dep g) + 1) = 2 * 2 ^ max (dep f) (dep g) := by rw [Nat.pow_succ, Nat.mul_comm]
    simp only [dep, hp, NM, List.length_append]; omega
/-- v stands as the dict d, new since L -/
noncomputable def DV (L : Nat) (T : Store) (v : W) (d : KW) : Prop := dicAt T v = some d ∧ ∀ l, v = .ref l → L ≤ l
section
variable {S : Store}
theorem dv_ref {L l : Nat} {T : Store} {d : KW} (h : T[l]? = some (dicO d)) (hl : L ≤ l) : DV L T (.ref l) d := ⟨by rw [dicAt_ref]; exact dicO_at h, fun k e => by cases e; exact hl⟩
theorem DV.seq {L : Nat} {T : Store} {v : W} {d : KW} (h : DV L T v d) : seqA T v = none := by
  obtain ⟨h, _⟩ := h
  cases v with
  | ref l =>
    rw [dicAt_ref] at h
    have : lstAt T l = none := by
      unfold dicL at h
      unfold lstAt
      cases e : T[l]? with
      | none => rfl
      | some o => cases o <;> first | rfl | (rw [e] at h; cases h)
    simp [seqA, tupL, this]
  | dic ks ws => rfl
  | _ => exact absurd h (by simp [dicAt])
theorem DV.list {L : Nat} {T : Store} {v : W} {d : KW} {A : List Str} (h : DV L T v d) (hk : Ks d A) : ∃ xs : List Str, gListD v T = .ok (.lst (xs.map W.str)) T ∧ xs.Nodup ∧ (∀ x, x ∈ xs ↔ x ∈ A) ∧ xs.length ≤ A.length := by
  obtain ⟨xs, e1, e2, e3, e4⟩ := hk.keys
  refine ⟨xs, ?_, e2, e3, e4⟩
  have q2 : d.map (fun kv => wKey kv.1) = xs.map W.str := by
    have : d.map (fun kv => wKey kv.1) = (d.map (·.1)).map wKey := by rw [List.map_map]; rfl
    rw [this, e1, List.map_map]
    rfl
  unfold gListD
  rw [h.seq]
  simp only [h.1, q2]
theorem upd2_ev {G' : Fn} {x : W} {o : Option W} {l : Nat} {d : KW} {A B : List Str} (hl : S[l]? = some (dicO d)) (hd : Ks d A) (hsz : A.length + B.length ≤ lim)
    (ih : Ev (G' [x] S) fun v T => ∃ e, DV S.length T v e ∧ Ks e B ∧ Keep S.length S T) :
    Ev (mExpr (gMetD gDUpd (mVar 1) (mCons (mAp G' (mCons (mVar 2) mNil)) mNil)) [o, some (.ref l), some x] S) fun p T => p = (.nx, [o, some (.ref l), some x]) ∧ (∃ d', T[l]? = some (dicO d') ∧ Ks d' (A ++ B)) ∧ Keep l S T := by
  have hl' := get_len hl
  simp [metDK, dicAt_ref, dicO_at hl]
  refine ih.mono ?_
  rintro v T ⟨e, h2, h3, h4⟩
  have e1 : dicL T l = some d := dicO_at (by rw [h4.at_ l hl']; exact hl)
  have hne : isRefTo l v = false := by
    cases v with
    | ref k => have := h2.2 k rfl; simp [isRefTo]; omega
    | _ => rfl
  have hle : d.length + e.length ≤ lim := Nat.le_trans (Nat.add_le_add hd.len h3.len) hsz
  have hT : l < T.length := Nat.lt_of_lt_of_le hl' h4.len
  simp [gDUpd, e1, h2.1, hne, hle]
  refine ⟨⟨mergeW d e, List.getElem?_set_self hT, hd.merge h3⟩, (h4.le (Nat.le_of_lt hl')).trans (Keep.set (Nat.le_refl _) (hd.merge h3).obj)⟩
theorem names_ev : ∀ (f : Form) (n : Nat), dep f ≤ n → (NM f).length ≤ 1000 → ∀ S, Ev (G_node_names n [toW f] S) fun v T => ∃ d, DV S.length T v d ∧ Ks d (NM f) ∧ Keep S.length S T
  | f, 0, hd, _, _ => by have := dep_pos f; omega
  | .all, n + 1, _, _, S => by
    have h := inner_ok (S := S ++ [dicO []]) .all
    simp [toW, kids] at h
    simp [G_node_names, runB_eq, sh_node_names, startW, toW, h, mForL]
    exact ⟨[], dv_ref (new_dic (L := 0)) (Nat.le_refl _), Ks.nil, Keep.push (Nat.le_refl _)⟩
  | .none, n + 1, _, _, S => by
    have h := inner_ok (S := S ++ [dicO []]) .none
    simp [toW, kids] at h
    simp [G_node_names, runB_eq, sh_node_names, startW, toW, h, mForL]
    exact ⟨[], dv_ref (new_dic (L := 0)) (Nat.le_refl _), Ks.nil, Keep.push (Nat.le_refl _)⟩
  | .name x, n + 1, _, _, S => by
    simp [G_node_names, runB_eq, sh_node_names, startW, toW, mDisp, mPCons, mPNil, gDisp, kwsOf]
    refine ⟨mergeW [] [(Sum.inr (tx x), W.bl true)], ⟨dicAt_T, fun l e => by cases e⟩, (Ks.nil.put (tx x) (.bl true)).of (fun y => by simp [NM]) (by simp [NM]), Keep.refl⟩
  | .un u f, n + 1, hd, hc, S => by
    have hlim : lim = 16777216 := rfl
    have h := inner_ok (S := S ++ [dicO []]) (.un u f)
    have ih := names_ev f n (by simp [dep] at hd; omega) hc (S ++ [dicO []])
    simp only [NM] at hc
    have up := upd2_ev (o := some (toW (.un u f))) (new_dic (S := S) (L := 0)) Ks.nil (by simp; omega) ih
    cases u
    all_goals
      simp only [toW, U.w, kids, List.map_cons, List.map_nil] at h up
      simp [-mExpr_eq, G_node_names, runB_eq, sh_node_names, startW, toW, U.w, h, mForL]
      refine up.mono ?_
      rintro p T ⟨rfl, ⟨d', h1, h2⟩, h3⟩
      simp
      exact ⟨d', dv_ref h1 (Nat.le_refl _), h2.of (fun x => by simp [NM]) (by simp [NM]), (Keep.push (Nat.le_refl _)).trans h3⟩
  | .bin b f g, n + 1, hd, hc, S => by
    have hlim : lim = 16777216 := rfl
    have h := inner_ok (S := S ++ [dicO []]) (.bin b f g)
    simp [NM] at hc
    have ih := names_ev f n (by simp [dep] at hd; omega) (by omega) (S ++ [dicO []])
    have up := upd2_ev (o := some (toW (.bin b f g))) (new_dic (S := S) (L := 0)) Ks.nil (by simp; omega) ih
    cases b
    all_goals
      simp only [toW, B.w, kids, List.map_cons, List.map_nil] at h up
      simp [-mExpr_eq, G_node_names, runB_eq, sh_node_names, startW, toW, B.w, h, mForL]
      refine up.mono ?_
      rintro p T ⟨rfl, ⟨d', h1, h2⟩, h3⟩
      have ih' := names_ev g n (by simp [dep] at hd; omega) (by omega) T
      simp [-mExpr_eq]
      refine (upd2_ev h1 h2 (by simp; omega) ih').mono ?_
      rintro p T' ⟨rfl, ⟨d2, g1, g2⟩, g3⟩
      simp
      exact ⟨d2, dv_ref g1 (Nat.le_refl _), g2.of (fun x => by simp [NM]) (by simp [NM]), ((Keep.push (Nat.le_refl _)).trans h3).trans g3⟩
/-- names() -/
theorem names_ok {f : Form} (hd : dep f ≤ 5) : Ev (G_Term_names [termW f] S) fun v T => ∃ l, v = .ref l ∧ S.length ≤ l ∧ lstAt T l = some ((usrt ltS (NM f)).map W.str) ∧ Keep S.length S T := by
  have hz := NM_le f
  have hp : 2 ^ dep f ≤ 2 ^ 5 := Nat.pow_le_pow_right (by decide) hd
  simp [G_Term_names, runB_eq, sh_Term_names, startW]
  refine (names_ev f 10 (by omega) (by omega) S).mono ?_
  rintro v T ⟨d, h2, h3, h4⟩
  obtain ⟨xs, e1, e2, e3, e4⟩ := h2.list h3
  have h64 : xs.length < 64 := by omega
  have hT := h4.len
  simp [e1, gSrtSR, strsW_str, h64, srt_usrt e2 e3]
  refine ⟨hT, ?_, h4.trans (Keep.push hT (no_strs _))⟩
  simp [lstAt]
theorem lstAt_at {l : Nat} {ws : List W} (hl : lstAt S l = some ws) : S[l]? = some (.lst ws) := by
  unfold lstAt at hl
  cases e : S[l]? with
  | none => rw [e] at hl; cases hl
  | some o => cases o <;> rw [e] at hl <;> first | (cases hl; rfl) | cases hl
theorem lst_lt {l : Nat} {ws : List W} (hl : lstAt S l = some ws) : l < S.length := get_len (lstAt_at hl)
theorem lst_keep {l : Nat} {ws : List W} {T : Store} (hl : lstAt S l = some ws) (kp : Keep S.length S T) : lstAt T l = some ws := by
  unfold lstAt
  rw [kp.at_ l (lst_lt hl), lstAt_at hl]
theorem lstAt_set {l : Nat} {ws : List W} (hl : l < S.length) : lstAt (S.set l (.lst ws)) l = some ws := by
  unfold lstAt
  rw [List.getElem?_set_self hl]
theorem append_ok {l : Nat} {ws : List W} {w : W} (h : lstAt S l = some ws) (hz : ws.length < lim) : gAppend (.ref l) [w] S = .ok .non (S.set l (.lst (ws ++ [w]))) := by
  simp only [gAppend, h, if_pos hz]
theorem gMetL_eq {g : W → List W → Store → Res W} {mo : SM W} {mr : SM (List W)} {s : Env'} {l : Nat} {ws : List W} (h : mo s S = .ok (.ref l) S) (hl : lstAt S l = some ws) : gMetL g mo mr s S = (mr s S).bind fun us S2 => g (.ref l) us S2 := by
  simp only [gMetL, h, ok_bind, hl]
theorem gListOf_tup {ws : List W} : gListOf (.tup ws) S = .ok (.lst ws) S := rfl
/-! ### the law's own -/
noncomputable def NMs (fs : List Form) : List Str := fs.flatMap NM
noncomputable def bodyN (G' : Fn) : SS := (mIf (mBT (gEq false) (mBin gIx (mVar 2) (mC (.int 0))) (mC (.str "name"))) (mExpr (gMetL gAppend (mVar 1) (mCons (mBin gIx (mVar 2) (mC (.int 1))) mNil))) (mAsg (mBin gAddR (mVar 1) (mAp G' (mCons (mAp (g1 gListOf) (mCons (mSl (mVar 2) (mPart (mC (.int 1))) mNoPart) mNil)) mNil))) (gNm 1)))
theorem sh_names_eq (G' : Fn) : sh__law_names_in G' = (mSeq (mAsg (mAp gLstR mNil) (gNm 1))
  (mSeq (mFor (mItems (mVar 0)) (gNm 2) (bodyN G'))
  (mRet (mUn gSrtSetS (mVar 1))))) := rfl
/-- what _law_names_in gives -/
noncomputable def Nms (S : Store) (A : List Str) (v : W) (T : Store) : Prop := v = .lst ((usrt ltS A).map W.str) ∧ Keep S.length S T
/-- the names so far -/
structure Sofar (L : Nat) (S0 T : Store) (l : Nat) (A : List Str) : Prop where
  le : L ≤ l
  ex : ∃ xs : List Str, lstAt T l = some (xs.map W.str) ∧ (∀ x, x ∈ xs ↔ x ∈ A) ∧ xs.length ≤ A.length
  kp : Keep L S0 T
theorem step_ev {n L l : Nat} {f : Form} {A : List Str} {a : W} {S0 T : Store} (ih : ∀ fs S, 1 ≤ n → (∀ g ∈ fs, dep g < n) → (NMs fs).length < 64 → Ev (G__law_names_in n [.lst (fs.map toW)] S) fun v T => Nms S (NMs fs) v T)
    (hd : dep f < n + 1) (hs : Sofar L S0 T l A) (hz : A.length + (NM f).length < 64) :
    Ev (bodyN (G__law_names_in n) [some a, some (.ref l), some (toW f)] T) fun p T' => ∃ l', p = (.nx, [some a, some (.ref l'), some (toW f)]) ∧ Sofar L S0 T' l' (A ++ NM f) := by
  have hlim : lim = 16777216 := rfl
  obtain ⟨hle, ⟨xs, hx, hm, hlen⟩, kp⟩ := hs
  have hL : L ≤ T.length := by have := lst_lt hx; omega
  have h1n : 1 ≤ n := by have := dep_pos f; omega
  have join : ∀ (gs : List Form), (∀ g ∈ gs, dep g < n) → NMs gs = NM f → Ev ((G__law_names_in n [.lst (gs.map toW)] T).bind fun v T1 => gAddR (.ref l) v T1) fun v T' => ∃ l', v = .ref l' ∧ Sofar L S0 T' l' (A ++ NM f) := by
    intro gs hg e
    rw [ev_bind]
    refine (ih gs T h1n hg (by rw [e]; omega)).mono ?_
    rintro v T1 ⟨rfl, k1⟩
    rw [e]
    have hx1 : lstAt T1 l = some (xs.map W.str) := lst_keep hx k1
    have hu := usrt_le (lt := ltS) (NM f)
    have hT1 := k1.len
    have h0 : seqM T1 (.ref l) = some (xs.map W.str) := hx1
    have h1 : seqM T1 (.lst ((usrt ltS (NM f)).map W.str)) = some ((usrt ltS (NM f)).map W.str) := rfl
    have hsz : xs.length + (usrt ltS (NM f)).length ≤ lim := by omega
    simp only [gAddR, h0, h1, List.length_map, if_pos hsz, ev_ok]
    refine ⟨_, rfl, by omega, ⟨xs ++ usrt ltS (NM f), by simp [lstAt], fun x => ?_, ?_⟩, (kp.trans (k1.le hL)).trans (Keep.push (by omega) (by
      show noClos (xs.map W.str ++ (usrt ltS (NM f)).map W.str) = true
      rw [← List.map_append]; exact no_strs _))⟩
    · simp [hm, mem_usrt totS]
    · simp; omega
  cases f with
  | name x =>
    have ml : ∀ s : Env', gMetL gAppend (mVar 1) (mCons (mBin gIx (mVar 2) (mC (.int 1))) mNil) [some a, some (.ref l), some (.tup [.str Wd.name.s, .str (tx x)])] T = .ok .non (T.set l (.lst (xs.map W.str ++ [.str (tx x)]))) := fun _ => by
      rw [gMetL_eq (l := l) (by simp) hx]
      simp
      exact append_ok hx (by rw [List.length_map]; omega)
    simp [-mExpr_eq, bodyN, toW]
    simp only [mExpr_eq, ml [], ok_bind, ev_ok]
    refine ⟨l, by simp, hle, ⟨xs ++ [tx x], ?_, fun y => ?_, ?_⟩, kp.trans (Keep.set hle (by
      have := no_strs (xs ++ [tx x])
      rw [List.map_append] at this; exact this))⟩
    · rw [List.map_append]; exact lstAt_set (lst_lt hx)
    · simp [hm, NM]
    · simp [NM]; omega
  | un u g =>
    have j := join [g] (fun k m => by rw [List.mem_singleton.mp m]; simp [dep] at hd; omega) (by simp [NMs, NM])
    simp only [List.map_cons, List.map_nil] at j
    cases u
    all_goals
      simp [bodyN, toW, U.w, cutW, HT.sIx, gListOf_tup]
      rw [← ev_bind]
      refine j.mono ?_
      rintro v T' ⟨l', rfl, h⟩
      simp
      exact h
  | bin b g k =>
    have j := join [g, k] (fun z m => by simp at m; simp [dep] at hd; rcases m with rfl | rfl <;> omega) (by simp [NMs, NM])
    simp only [List.map_cons, List.map_nil] at j
    cases b
    all_goals
      simp [bodyN, toW, B.w, cutW, HT.sIx, gListOf_tup]
      rw [← ev_bind]
      refine j.mono ?_
      rintro v T' ⟨l', rfl, h⟩
      simp
      exact h
  | all =>
    have j := join [] (fun k m => by cases m) (by simp [NMs, NM])
    simp only [List.map_nil] at j
    simp [bodyN, toW, cutW, HT.sIx, gListOf_tup]
    rw [← ev_bind]
    refine j.mono ?_
    rintro v T' ⟨l', rfl, h⟩
    simp
    exact h
  | none =>
    have j := join [] (fun k m => by cases m) (by simp [NMs, NM])
    simp only [List.map_nil] at j
    simp [bodyN, toW, cutW, HT.sIx, gListOf_tup]
    rw [← ev_bind]
    refine j.mono ?_
    rintro v T' ⟨l', rfl, h⟩
    simp
    exact h
theorem loop_ev {n L : Nat} {a : W} {S0 : Store} (ih : ∀ fs S, 1 ≤ n → (∀ g ∈ fs, dep g < n) → (NMs fs).length < 64 → Ev (G__law_names_in n [.lst (fs.map toW)] S) fun v T => Nms S (NMs fs) v T) :
    ∀ (rest : List Form) (A : List Str) (T : Store) (l : Nat) (o2 : Option W), (∀ g ∈ rest, dep g < n + 1) → A.length + (NMs rest).length < 64 → Sofar L S0 T l A →
      Ev (mForL (gNm 2) (bodyN (G__law_names_in n)) (rest.map toW) [some a, some (.ref l), o2] T) fun p T' => (∃ l' o2', p = (.nx, [some a, some (.ref l'), o2']) ∧ Sofar L S0 T' l' (A ++ NMs rest))
  | [], A, T, l, o2, hg, hz, hs => by
    have e : A ++ NMs [] = A := List.append_nil A
    rw [e]
    exact Ev.ok ⟨l, o2, rfl, hs⟩
  | f :: rest, A, T, l, o2, hg, hz, hs => by
    have e : NMs (f :: rest) = NM f ++ NMs rest := List.flatMap_cons
    rw [e, List.length_append] at hz
    rw [List.map_cons, mForL]
    dsimp only
    rw [gNm_eq, ok_bind, ev_bind]
    refine (step_ev ih (hg f List.mem_cons_self) hs (by omega)).mono ?_
    rintro p T' ⟨l', rfl, hs'⟩
    have r := loop_ev (a := a) ih rest (A ++ NM f) T' l' (some (toW f)) (fun g m => hg g (List.mem_cons_of_mem _ m)) (by rw [List.length_append]; omega) hs'
    rw [e, ← List.append_assoc]
    exact r
theorem names_in_ok : ∀ (n : Nat) (fs : List Form) (S : Store), 1 ≤ n → (∀ g ∈ fs, dep g < n) → (NMs fs).length < 64 → Ev (G__law_names_in n [.lst (fs.map toW)] S) fun v T => Nms S (NMs fs) v T
  | 0, _, _, h, _, _ => by omega
  | n + 1, fs, S, _, hg, hz => by
    have start := loop_ev (a := .lst (fs.map toW)) (L := S.length) (S0 := S) (names_in_ok n) fs [] (S ++ [.lst []]) S.length none hg (by simpa using hz) ⟨Nat.le_refl _, ⟨[], by simp [lstAt], fun x => Iff.rfl, Nat.le_refl _⟩, Keep.push (Nat.le_refl _)⟩
    show Ev (runB 3 (sh__law_names_in (G__law_names_in n)) [.lst (fs.map toW)] S) _
    rw [sh_names_eq]
    simp [runB_eq, startW]
    refine start.mono ?_
    rintro p T ⟨l, o2, rfl, ⟨h1, ⟨xs, hx, hm, hl⟩, kp⟩⟩
    rw [List.nil_append] at hm hl
    have e0 : seqL T (.ref l) = some (xs.map W.str) := hx
    have h64 : xs.length < 64 := by omega
    simp [gSrtSetS, e0, strsW_str, h64]
    exact ⟨by rw [usrt_congr hm], kp⟩
end
end LTm
end
section
set_option maxRecDepth 100000
set_option maxHeartbeats 4000000
namespace LTm
open PySem PySem.Spec L2 RL LC LTm OrdX
open PyProof.Rows hiding St
theorem wr (a : Wd) (h : decide (a ∈ [Wd.all, .none, .closed, .opn, .rim]) = true) : a.c ∈ reservedL := by revert h; cases a <;> decide
end LTm
end
section
set_option maxRecDepth 100000
set_option maxHeartbeats 4000000
/-! terms where Term.of refuses -/
namespace LTi
open PySem PySem.Spec L2 RL LC LTm
open PyProof.Rows hiding St
noncomputable def p_InvalidTerm : List Str := ["value"]
noncomputable def l_InvalidTerm : List (Str × (Str ⊕ Str)) := [("code", .inl "InvalidTerm"), ("value", .inr "value")]
noncomputable def sh_Term_of : SS := (mSeq (mIf (mTru (mAp (gIsi (ktC "Term")) (mCons (mVar 0) (mCons (mC (.gl "Term")) mNil)))) (mRet (mAp (gMake "Term" ["node", "deep", "part_count"]) (mCons (mUn (gFld "Term" "node") (mVar 0)) (mCons (mUn (gFld "Term" "deep") (mVar 0)) (mCons (mUn (gFld "Term" "part_count") (mVar 0)) mNil))))) mSkip)
  (mSeq (mIf (mNotT (mTru (mAp G_is_name (mCons (mVar 0) mNil)))) (mRaise (mAp (gMakeX "InvalidTerm" p_InvalidTerm l_InvalidTerm) (mCons (mVar 0) mNil))) mSkip)
  (mRet (mAp (gMake "Term" ["node", "deep", "part_count"]) (mCons (mAp gTup (mCons (mC (.str "name")) (mCons (mVar 0) mNil))) (mCons (mC (.int 1)) (mCons (mC (.int 1)) mNil)))))))
noncomputable def G_Term_of : Fn := runB 1 sh_Term_of
noncomputable def sh_joined : SS := (mSeq (mAsg (mLc (mItems (mVar 1)) [5] (gNm 5) mYes (mAp G_Term_of (mCons (mVar 5) mNil))) (gNm 2))
  (mSeq (mPar 3 4 (mCons (mBin gAdd (mC (.int 1)) (mAp (g1 gMax) (mCons (mLc (mItems (mVar 2)) [6] (gNm 6) mYes (mUn (gFld "Term" "deep") (mVar 6))) mNil))) (mCons (mBin gAdd (mC (.int 1)) (mAp (g1 gSum) (mCons (mLc (mItems (mVar 2)) [6] (gNm 6) mYes (mUn (gFld "Term" "part_count") (mVar 6))) mNil))) mNil)))
  (mSeq (mExpr (mAp G_need_size (mCons (mVar 3) (mCons (mVar 4) mNil))))
  (mRet (mAp (gMake "Term" ["node", "deep", "part_count"]) (mCons (mAp gTup (mCons (mVar 0) (mStar (mLc (mItems (mVar 2)) [6] (gNm 6) mYes (mUn (gFld "Term" "node") (mVar 6))) mNil))) (mCons (mVar 3) (mCons (mVar 4) mNil))))))))
noncomputable def G_joined : Fn := runB 7 sh_joined
noncomputable def sh_Term___or__ : SS := (mRet (mAp (gStar 1 G_joined) (mCons (mC (.str "or")) (mCons (mVar 0) (mCons (mVar 1) mNil)))))
noncomputable def G_Term___or__ : Fn := runB 2 sh_Term___or__
noncomputable def sh_Term___ror__ : SS := (mRet (mAp (gStar 1 G_joined) (mCons (mC (.str "or")) (mCons (mVar 1) (mCons (mVar 0) mNil)))))
noncomputable def G_Term___ror__ : Fn := runB 2 sh_Term___ror__
noncomputable def sh_Term___and__ : SS := (mRet (mAp (gStar 1 G_joined) (mCons (mC (.str "and")) (mCons (mVar 0) (mCons (mVar 1) mNil)))))
noncomputable def G_Term___and__ : Fn := runB 2 sh_Term___and__
noncomputable def sh_Term___rand__ : SS := (mRet (mAp (gStar 1 G_joined) (mCons (mC (.str "and")) (mCons (mVar 1) (mCons (mVar 0) mNil)))))
noncomputable def G_Term___rand__ : Fn := runB 2 sh_Term___rand__
noncomputable def sh_Term___sub__ : SS := (mRet (mAp (gStar 1 G_joined) (mCons (mC (.str "less")) (mCons (mVar 0) (mCons (mVar 1) mNil)))))
noncomputable def G_Term___sub__ : Fn := runB 2 sh_Term___sub__
noncomputable def sh_Term___rsub__ : SS := (mRet (mAp (gStar 1 G_joined) (mCons (mC (.str "less")) (mCons (mVar 1) (mCons (mVar 0) mNil)))))
noncomputable def G_Term___rsub__ : Fn := runB 2 sh_Term___rsub__
noncomputable def sh_Term___invert__ : SS := (mRet (mAp (gStar 1 G_joined) (mCons (mC (.str "not")) (mCons (mVar 0) mNil))))
noncomputable def G_Term___invert__ : Fn := runB 1 sh_Term___invert__
noncomputable def sh_Term_closed : SS := (mRet (mAp (gStar 1 G_joined) (mCons (mC (.str "closed")) (mCons (mVar 0) mNil))))
noncomputable def G_Term_closed : Fn := runB 1 sh_Term_closed
noncomputable def sh_Term_opened : SS := (mRet (mAp (gStar 1 G_joined) (mCons (mC (.str "open")) (mCons (mVar 0) mNil))))
noncomputable def G_Term_opened : Fn := runB 1 sh_Term_opened
noncomputable def sh_Term_rim : SS := (mRet (mAp (gStar 1 G_joined) (mCons (mC (.str "rim")) (mCons (mVar 0) mNil))))
noncomputable def G_Term_rim : Fn := runB 1 sh_Term_rim
noncomputable def sh__law_term (G__law_term' : Fn) : SS := (mSeq (mIf (mBT (gIn false) (mBin gIx (mVar 0) (mC (.int 0))) (mAp gTup (mCons (mC (.str "all")) (mCons (mC (.str "none")) mNil)))) (mRet (mIfE (mBT (gEq false) (mBin gIx (mVar 0) (mC (.int 0))) (mC (.str "all"))) (mAp G_Term_whole mNil) (mAp G_Term_nothing mNil))) mSkip)
  (mSeq (mIf (mBT (gEq false) (mBin gIx (mVar 0) (mC (.int 0))) (mC (.str "name"))) (mRet (mAp G_Term_of (mCons (mBin gIx (mVar 0) (mC (.int 1))) mNil))) mSkip)
  (mSeq (mAsg (mAp G__law_term' (mCons (mBin gIx (mVar 0) (mC (.int 1))) mNil)) (gNm 1))
  (mSeq (mIf (mBT (gIn false) (mBin gIx (mVar 0) (mC (.int 0))) (mAp gTup (mCons (mC (.str "closed")) (mCons (mC (.str "open")) mNil)))) (mRet (mIfE (mBT (gEq false) (mBin gIx (mVar 0) (mC (.int 0))) (mC (.str "closed"))) (mMeth "Term" "closed" G_Term_closed (mVar 1) mNil) (mMeth "Term" "opened" G_Term_opened (mVar 1) mNil))) mSkip)
  (mSeq (mIf (mBT (gIn false) (mBin gIx (mVar 0) (mC (.int 0))) (mAp gTup (mCons (mC (.str "not")) (mCons (mC (.str "rim")) mNil)))) (mRet (mIfE (mBT (gEq false) (mBin gIx (mVar 0) (mC (.int 0))) (mC (.str "not"))) (mUn (gInv "Term" G_Term___invert__) (mVar 1)) (mMeth "Term" "rim" G_Term_rim (mVar 1) mNil))) mSkip)
  (mSeq (mAsg (mAp G__law_term' (mCons (mBin gIx (mVar 0) (mC (.int 2))) mNil)) (gNm 2))
  (mRet (mIfE (mBT (gEq false) (mBin gIx (mVar 0) (mC (.int 0))) (mC (.str "or"))) (mBin (gOwn "Term" (fun _ _ _ => .bad) G_Term___or__ G_Term___ror__) (mVar 1) (mVar 2)) (mIfE (mBT (gEq false) (mBin gIx (mVar 0) (mC (.int 0))) (mC (.str "and"))) (mBin (gOwn "Term" (fun _ _ _ => .bad) G_Term___and__ G_Term___rand__) (mVar 1) (mVar 2)) (mBin (gOwn "Term" gSub G_Term___sub__ G_Term___rsub__) (mVar 1) (mVar 2)))))))))))
noncomputable def G__law_term : Nat → Fn
  | 0 => fun _ _ => .bad
  | n + 1 => runB 3 (sh__law_term (G__law_term n))
section
variable {S : Store}
theorem of_term (f : Form) : G_Term_of [termW f] S = .ok (termW f) S := by
  have h := isi_term (S := S) f
  simp [-gMake_eq, G_Term_of, runB_eq, sh_Term_of, startW, h, truW, make_term]
theorem of_name {x : List Nat} (h : nameL x = true) (h6 : x.length ≤ lim) : G_Term_of [.str (tx x)] S = .ok (termW (.name x)) S := by
  have h1 := isi_str' (S := S) (tx x)
  have h2 := is_name_tx (S := S) h6
  rw [h] at h2
  simp [G_Term_of, runB_eq, sh_Term_of, startW, h1, h2, truW, termW, toW, dep, prt]
theorem joined1 (u : U) (f : Form) (hd : dep f + 1 ≤ 40) (hp : prt f + 1 ≤ 2000) : G_joined [.str u.w.s, .tup [termW f]] S = .ok (termW (.un u f)) S := by
  have h0 := of_term (S := S) f
  have hn := need_ok (S := S) (i := 1 + (dep f : Int)) (j := 1 + (prt f : Int)) (by omega) (by omega)
  have hz : (0 : Nat) < lim := by decide
  have e1 : (1 + (dep f : Int)) = ((dep (.un u f) : Nat) : Int) := by simp [dep]; omega
  have e2 : (1 + (prt f : Int)) = ((prt (.un u f) : Nat) : Int) := by simp [prt]; omega
  have e3 : W.tup [.str u.w.s, toW f] = toW (.un u f) := rfl
  rw [e1, e2] at hn
  simp [-gMake_eq, G_joined, runB_eq, sh_joined, startW, h0, wipeW, hz, gMax, gSum, intsW, e1, e2, hn, e3, make_term]
theorem of_opd {f : Form} {w : W} (h : Opd f w) : G_Term_of [w] S = .ok (termW f) S := by
  cases h with
  | term => exact of_term f
  | name h h6 => exact of_name h h6
theorem joined2 (b : B) (f g : Form) {w1 w2 : W} (o1 : Opd f w1) (o2 : Opd g w2) (hd : dep (.bin b f g) ≤ 40) (hp : prt (.bin b f g) ≤ 2000) : G_joined [.str b.w.s, .tup [w1, w2]] S = .ok (termW (.bin b f g)) S := by
  have h0 := of_opd (S := S) o1
  have h1 := of_opd (S := S) o2
  have hn := need_ok (S := S) (i := (dep (.bin b f g) : Int)) (j := (prt (.bin b f g) : Int)) (by omega) (by omega)
  have hz : (0 : Nat) < lim := by decide
  have hz1 : (1 : Nat) < lim := by decide
  have e1 : (1 + max (dep f : Int) (dep g : Int)) = ((dep (.bin b f g) : Nat) : Int) := by simp [dep]; omega
  have e2 : (1 + ((prt f : Int) + (prt g : Int))) = ((prt (.bin b f g) : Nat) : Int) := by simp [prt]; omega
  have e3 : W.tup [.str b.w.s, toW f, toW g] = toW (.bin b f g) := rfl
  simp [-gMake_eq, G_joined, runB_eq, sh_joined, startW, h0, h1, wipeW, hz, hz1, gMax, gSum, intsW, e1, e2, hn, e3, make_term]
theorem closed_ok {f : Form} (h : Fits (.un .closed f)) : G_Term_closed [termW f] S = .ok (termW (.un .closed f)) S := by
  have := joined1 (S := S) .closed f h.1 h.2
  simp [U.w] at this
  simp [G_Term_closed, runB_eq, sh_Term_closed, startW, this]
theorem opened_ok {f : Form} (h : Fits (.un .opn f)) : G_Term_opened [termW f] S = .ok (termW (.un .opn f)) S := by
  have := joined1 (S := S) .opn f h.1 h.2
  simp [U.w] at this
  simp [G_Term_opened, runB_eq, sh_Term_opened, startW, this]
theorem rim_ok {f : Form} (h : Fits (.un .rim f)) : G_Term_rim [termW f] S = .ok (termW (.un .rim f)) S := by
  have := joined1 (S := S) .rim f h.1 h.2
  simp [U.w] at this
  simp [G_Term_rim, runB_eq, sh_Term_rim, startW, this]
theorem not_ok {f : Form} (h : Fits (.un .not f)) : G_Term___invert__ [termW f] S = .ok (termW (.un .not f)) S := by
  have := joined1 (S := S) .not f h.1 h.2
  simp [U.w] at this
  simp [G_Term___invert__, runB_eq, sh_Term___invert__, startW, this]
noncomputable def opG : B → Fn
  | .or => G_Term___or__ | .and => G_Term___and__ | .less => G_Term___sub__
noncomputable def opR : B → Fn
  | .or => G_Term___ror__ | .and => G_Term___rand__ | .less => G_Term___rsub__
theorem op_ok {b : B} {f g : Form} {w : W} (o : Opd g w) (h : Fits (.bin b f g)) : opG b [termW f, w] S = .ok (termW (.bin b f g)) S := by
  have := joined2 (S := S) b f g (.term f) o h.1 h.2
  cases b <;> simp [B.w] at this <;> simp [opG, G_Term___or__, sh_Term___or__, G_Term___and__, sh_Term___and__, G_Term___sub__, sh_Term___sub__, runB_eq, startW, this]
theorem own_ok {b : B} {f g : Form} {base : W → W → Store → Res W} (h : Fits (.bin b f g)) : gOwn "Term" base (opG b) (opR b) (termW f) (termW g) S = .ok (termW (.bin b f g)) S := by
  simp [gOwn, op_ok (.term g) h]
theorem law_term_ok : ∀ (f : Form) (n : Nat), dep f ≤ n → (∀ g, Sub g f → Fits g) → (∀ x, Sub (.name x) f → nameL x = true ∧ x.length ≤ lim) → G__law_term n [toW f] S = .ok (termW f) S
  | f, 0, hd, _, _ => by have := dep_pos f; omega
  | .all, n + 1, _, _, _ => by simp [G__law_term, runB_eq, sh__law_term, startW, toW, whole_ok]
  | .none, n + 1, _, _, _ => by simp [G__law_term, runB_eq, sh__law_term, startW, toW, nothing_ok]
  | .name x, n + 1, _, _, hn => by
    have := hn x .self
    simp [G__law_term, runB_eq, sh__law_term, startW, toW, of_name this.1 this.2]
  | .un u f, n + 1, hd, hf, hn => by
    have ih := law_term_ok f n (by simp [dep] at hd; omega) (fun g h => hf g (.un h)) (fun x h => hn x (.un h))
    have ft := hf _ .self
    have m1 : ∀ (g : Fn) (mr : SM (List W)) (s : Env'), methK "Term" "closed" g mr s (termW f) S = (mr s S).bind fun us S2 => g (termW f :: us) S2 := fun g mr s => methK_term (by decide +kernel)
    have m2 : ∀ (g : Fn) (mr : SM (List W)) (s : Env'), methK "Term" "opened" g mr s (termW f) S = (mr s S).bind fun us S2 => g (termW f :: us) S2 := fun g mr s => methK_term (by decide +kernel)
    have m3 : ∀ (g : Fn) (mr : SM (List W)) (s : Env'), methK "Term" "rim" g mr s (termW f) S = (mr s S).bind fun us S2 => g (termW f :: us) S2 := fun g mr s => methK_term (by decide +kernel)
    simp at m1 m2 m3
    cases u <;> simp [G__law_term, runB_eq, sh__law_term, startW, toW, U.w, ih, m1, m2, m3, gInv]
    · exact by rw [not_ok ft]; rfl
    · rw [closed_ok ft]; rfl
    · rw [opened_ok ft]; rfl
    · rw [rim_ok ft]; rfl
  | .bin b f g, n + 1, hd, hf, hn => by
    have ih := law_term_ok f n (by simp [dep] at hd; omega) (fun k h => hf k (.left h)) (fun x h => hn x (.left h))
    have ih' := law_term_ok g n (by simp [dep] at hd; omega) (fun k h => hf k (.right h)) (fun x h => hn x (.right h))
    have ft := hf _ .self
    have o1 := fun base => own_ok (S := S) (base := base) ft
    cases b <;> simp [opG, opR] at o1 <;> simp [G__law_term, runB_eq, sh__law_term, startW, toW, B.w, ih, ih', o1]
end
end LTi
end
section
set_option maxRecDepth 100000
set_option maxHeartbeats 4000000
namespace Dk09
open PySem PySem.Spec L2 RL
open LC
open LTm hiding G_Term___and__ G_Term___invert__ G_Term___or__ G_Term___rand__ G_Term___ror__ G_Term___rsub__ G_Term___sub__ G_Term_closed G_Term_of G_Term_opened G_Term_rim G__law_term G_joined joined1 joined2 of_name of_term opG opR sh_Term___and__ sh_Term___invert__ sh_Term___or__ sh_Term___rand__ sh_Term___ror__ sh_Term___rsub__ sh_Term___sub__ sh_Term_closed sh_Term_of sh_Term_opened sh_Term_rim sh__law_term sh_joined
open LTi
open PyProof.Rows hiding St
noncomputable def topS (i : Nat) : Stmt := PySem.Challenge.pw_unseenmap_k09_statements.main.body.getD i (.Pass ⟨0, 0, 0, 0⟩)
noncomputable def c_EMPTY : W := .str " is empty"
noncomputable def c_MIDDLES : List (Str × Str) := [("within", " within "), ("equal", " = ")]
noncomputable abbrev s_InvalidTerm : Stmt := (clsB (topS 3)).getD 0 (.Pass ⟨0, 0, 0, 0⟩)
noncomputable abbrev s_InvalidText : Stmt := (clsB (topS 4)).getD 0 (.Pass ⟨0, 0, 0, 0⟩)
noncomputable def cs_code : List Str := ["InvalidTerm", "InvalidText"]
noncomputable def cs_fact_name : List Str := []
noncomputable def cs_limit : List Str := []
noncomputable def cs_line : List Str := ["InvalidText"]
noncomputable def cs_path : List Str := []
noncomputable def cs_sheet_name : List Str := []
noncomputable def cs_user : List Str := []
noncomputable def cs_value : List Str := ["InvalidTerm"]
noncomputable def cs_word : List Str := []
noncomputable def kx_tab : List (Str × Bool) := [(("InvalidTerm" : Str), true), (("InvalidText" : Str), true)]
noncomputable def k_MIDDLES : List Str := ["within", "equal"]
noncomputable abbrev s_node_text : Stmt := topS 19
noncomputable abbrev s_Term_text : Stmt := (clsB (topS 24)).getD 22 (.Pass ⟨0, 0, 0, 0⟩)
noncomputable abbrev s_inner_nodes : Stmt := topS 20
noncomputable abbrev s_depth_in : Stmt := topS 22
noncomputable abbrev s_parts_in : Stmt := topS 23
noncomputable abbrev s_Term___init__ : Stmt := (clsB (topS 24)).getD 0 (.Pass ⟨0, 0, 0, 0⟩)
noncomputable abbrev s_need_size : Stmt := topS 25
noncomputable abbrev s_sized_term : Stmt := topS 27
noncomputable abbrev s_Reader___init__ : Stmt := (clsB (topS 28)).getD 0 (.Pass ⟨0, 0, 0, 0⟩)
noncomputable abbrev s_is_name : Stmt := topS 18
noncomputable abbrev s_Reader_take : Stmt := (clsB (topS 28)).getD 1 (.Pass ⟨0, 0, 0, 0⟩)
noncomputable abbrev s_Reader_letters_here : Stmt := (clsB (topS 28)).getD 2 (.Pass ⟨0, 0, 0, 0⟩)
noncomputable abbrev s_Reader_pair : Stmt := (clsB (topS 28)).getD 4 (.Pass ⟨0, 0, 0, 0⟩)
noncomputable abbrev s_Reader_part : Stmt := (clsB (topS 28)).getD 3 (.Pass ⟨0, 0, 0, 0⟩)
noncomputable abbrev s_Term_read : Stmt := (clsB (topS 24)).getD 4 (.Pass ⟨0, 0, 0, 0⟩)
noncomputable abbrev s_Statement___init__ : Stmt := (clsB (topS 32)).getD 0 (.Pass ⟨0, 0, 0, 0⟩)
noncomputable abbrev s_Statement_read : Stmt := (clsB (topS 32)).getD 4 (.Pass ⟨0, 0, 0, 0⟩)
noncomputable abbrev s_Statement_relation : Stmt := (clsB (topS 32)).getD 5 (.Pass ⟨0, 0, 0, 0⟩)
noncomputable abbrev s_Statement_one : Stmt := (clsB (topS 32)).getD 6 (.Pass ⟨0, 0, 0, 0⟩)
noncomputable abbrev s_Statement_other : Stmt := (clsB (topS 32)).getD 7 (.Pass ⟨0, 0, 0, 0⟩)
noncomputable abbrev s_Term_of : Stmt := (clsB (topS 24)).getD 1 (.Pass ⟨0, 0, 0, 0⟩)
noncomputable abbrev s_joined : Stmt := topS 26
noncomputable abbrev s_Term___sub__ : Stmt := (clsB (topS 24)).getD 9 (.Pass ⟨0, 0, 0, 0⟩)
noncomputable abbrev s_Term___rsub__ : Stmt := (clsB (topS 24)).getD 10 (.Pass ⟨0, 0, 0, 0⟩)
noncomputable abbrev s_Term___or__ : Stmt := (clsB (topS 24)).getD 5 (.Pass ⟨0, 0, 0, 0⟩)
noncomputable abbrev s_Term___ror__ : Stmt := (clsB (topS 24)).getD 6 (.Pass ⟨0, 0, 0, 0⟩)
noncomputable abbrev s_Term_depth : Stmt := (clsB (topS 24)).getD 16 (.Pass ⟨0, 0, 0, 0⟩)
noncomputable abbrev s_difference : Stmt := topS 33
noncomputable abbrev s_Statement_rest : Stmt := (clsB (topS 32)).getD 8 (.Pass ⟨0, 0, 0, 0⟩)
noncomputable abbrev s_node_names : Stmt := topS 21
noncomputable abbrev s_Term_names : Stmt := (clsB (topS 24)).getD 15 (.Pass ⟨0, 0, 0, 0⟩)
noncomputable abbrev s_Statement_terms : Stmt := (clsB (topS 32)).getD 9 (.Pass ⟨0, 0, 0, 0⟩)
noncomputable abbrev s_Statement_names : Stmt := (clsB (topS 32)).getD 10 (.Pass ⟨0, 0, 0, 0⟩)
noncomputable abbrev s_Term___str__ : Stmt := (clsB (topS 24)).getD 23 (.Pass ⟨0, 0, 0, 0⟩)
noncomputable abbrev s_Statement_text : Stmt := (clsB (topS 32)).getD 13 (.Pass ⟨0, 0, 0, 0⟩)
noncomputable abbrev s_Statement___str__ : Stmt := (clsB (topS 32)).getD 14 (.Pass ⟨0, 0, 0, 0⟩)
noncomputable abbrev s_Statement___eq__ : Stmt := (clsB (topS 32)).getD 15 (.Pass ⟨0, 0, 0, 0⟩)
noncomputable abbrev s_Statement___repr__ : Stmt := (clsB (topS 32)).getD 16 (.Pass ⟨0, 0, 0, 0⟩)
noncomputable abbrev s__law_cells : Stmt := topS 35
noncomputable abbrev s__law_draw : Stmt := topS 36
noncomputable abbrev s__law_one : Stmt := topS 37
noncomputable abbrev s__law_same : Stmt := topS 38
noncomputable abbrev s__law_extra : Stmt := topS 40
noncomputable abbrev s_Statement_empty : Stmt := (clsB (topS 32)).getD 1 (.Pass ⟨0, 0, 0, 0⟩)
noncomputable abbrev s_Statement_within : Stmt := (clsB (topS 32)).getD 2 (.Pass ⟨0, 0, 0, 0⟩)
noncomputable abbrev s_Statement_equal : Stmt := (clsB (topS 32)).getD 3 (.Pass ⟨0, 0, 0, 0⟩)
noncomputable abbrev s__law_why : Stmt := topS 41
noncomputable abbrev s__law_whys : Stmt := topS 39
noncomputable abbrev s__law_words : Stmt := topS 42
noncomputable abbrev s__law_text : Stmt := topS 45
noncomputable abbrev s__law_names_in : Stmt := topS 47
noncomputable abbrev s__law_rest : Stmt := topS 48
noncomputable abbrev s__law_leaf : Stmt := topS 43
noncomputable abbrev s__law_form : Stmt := topS 44
noncomputable abbrev s__law_saying : Stmt := topS 49
noncomputable abbrev s__law_saying_text : Stmt := topS 50
noncomputable abbrev s_Term_whole : Stmt := (clsB (topS 24)).getD 2 (.Pass ⟨0, 0, 0, 0⟩)
noncomputable abbrev s_Term_nothing : Stmt := (clsB (topS 24)).getD 3 (.Pass ⟨0, 0, 0, 0⟩)
noncomputable abbrev s_Term___and__ : Stmt := (clsB (topS 24)).getD 7 (.Pass ⟨0, 0, 0, 0⟩)
noncomputable abbrev s_Term___rand__ : Stmt := (clsB (topS 24)).getD 8 (.Pass ⟨0, 0, 0, 0⟩)
noncomputable abbrev s_Term___invert__ : Stmt := (clsB (topS 24)).getD 11 (.Pass ⟨0, 0, 0, 0⟩)
noncomputable abbrev s_Term_closed : Stmt := (clsB (topS 24)).getD 12 (.Pass ⟨0, 0, 0, 0⟩)
noncomputable abbrev s_Term_opened : Stmt := (clsB (topS 24)).getD 13 (.Pass ⟨0, 0, 0, 0⟩)
noncomputable abbrev s_Term_rim : Stmt := (clsB (topS 24)).getD 14 (.Pass ⟨0, 0, 0, 0⟩)
noncomputable abbrev s__law_term : Stmt := topS 46
noncomputable abbrev s__law_statement : Stmt := topS 51
noncomputable abbrev s_law : Stmt := topS 52
noncomputable def L_0 : Lm := lamOf ("law" ++ ".<locals>." ++ "<lambda>") [] (kidAt (exprOf (stAt (defBody s_law) 4)) 0)
noncomputable def L_1 : Lm := lamOf ("law" ++ ".<locals>." ++ "<lambda>") [0] (kidAt (exprOf (stAt (defBody s_law) 4)) 1)
noncomputable def L_2 : Lm := lamOf ("law" ++ ".<locals>." ++ "<lambda>") [0] (kidAt (exprOf (stAt (defBody s_law) 4)) 2)
noncomputable def L_3 : Lm := lamOf ("law" ++ ".<locals>." ++ "<lambda>") [0] (kidAt (exprOf (stAt (defBody s_law) 4)) 3)
noncomputable def L_4 : Lm := lamOf ("law" ++ ".<locals>." ++ "<lambda>") [0] (kidAt (exprOf (stAt (defBody s_law) 4)) 4)
noncomputable def L_5 : Lm := lamOf ("law" ++ ".<locals>." ++ "<lambda>") [0] (kidAt (exprOf (stAt (defBody s_law) 4)) 5)
noncomputable instance lams : Lams := ⟨fun j => match j with
  | 0 => L_0
  | 1 => L_1
  | 2 => L_2
  | 3 => L_3
  | 4 => L_4
  | 5 => L_5
  | _ => default⟩
noncomputable def sh_Statement_read : SS := (mSeq (mIf (mNotT (mTru (mAp (gIsi ktB) (mCons (mVar 0) (mCons (mC (.ty "str")) mNil))))) (mRaise (mAp (gMakeX "InvalidText" p_InvalidText l_InvalidText) (mCons (mC (.int 0)) mNil))) mSkip)
  (mSeq (mIf (mTru (mM1 gEnds (mVar 0) (mC c_EMPTY))) (mRet (mAp (gMake "Statement" ["own_relation", "own_one", "own_other"]) (mCons (mC (.str "empty")) (mCons (mAp G_Term_read (mCons (mSl (mVar 0) mNoPart (mPart (mBin gSub (mAp (g1 gLen) (mCons (mVar 0) mNil)) (mAp (g1 gLen) (mCons (mC c_EMPTY) mNil))))) mNil)) (mCons (mC .non) mNil))))) mSkip)
  (mSeq (mFor (mWalkD k_MIDDLES) (gNm 1) (mSeq (mAsg (mM1 gPartn (mVar 0) (mCDict c_MIDDLES (mVar 1))) (gTp 3 (gCons (gNm 2) (gCons (gNm 3) (gCons (gNm 4) gNil)))))
  (mIf (mBT (gEq true) (mVar 3) (mC (.str ""))) (mRet (mAp (gMake "Statement" ["own_relation", "own_one", "own_other"]) (mCons (mVar 1) (mCons (mAp G_Term_read (mCons (mVar 2) mNil)) (mCons (mAp G_Term_read (mCons (mVar 4) mNil)) mNil))))) mSkip)))
  (mRaise (mAp (gMakeX "InvalidText" p_InvalidText l_InvalidText) (mCons (mC (.int 0)) mNil))))))
noncomputable def G_Statement_read : Fn := runB 5 sh_Statement_read
noncomputable def sh_Statement_relation : SS := (mRet (mUn (gFld "Statement" "own_relation") (mVar 0)))
noncomputable def G_Statement_relation : Fn := runB 1 sh_Statement_relation
noncomputable def sh_Statement_one : SS := (mRet (mUn (gFld "Statement" "own_one") (mVar 0)))
noncomputable def G_Statement_one : Fn := runB 1 sh_Statement_one
noncomputable def sh_Statement_other : SS := (mRet (mUn (gFld "Statement" "own_other") (mVar 0)))
noncomputable def G_Statement_other : Fn := runB 1 sh_Statement_other
noncomputable def sh_difference : SS := (mSeq (mExpr (mAp G_need_size (mCons (mBin gAdd (mC (.int 2)) (mAp (g1 gMax) (mCons (mAp gLst (mCons (mMeth "Term" "depth" G_Term_depth (mVar 0) mNil) (mCons (mMeth "Term" "depth" G_Term_depth (mVar 1) mNil) mNil))) mNil))) (mCons (mC (.int 1)) mNil))))
  (mRet (mBin (gOwn "Term" (fun _ _ _ => .bad) G_Term___or__ G_Term___ror__) (mBin (gOwn "Term" gSub G_Term___sub__ G_Term___rsub__) (mVar 0) (mVar 1)) (mBin (gOwn "Term" gSub G_Term___sub__ G_Term___rsub__) (mVar 1) (mVar 0)))))
noncomputable def G_difference : Fn := runB 2 sh_difference
noncomputable def sh_Statement_rest : SS := (mSeq (mIf (mBT (gEq false) (mUn (gFld "Statement" "own_relation") (mVar 0)) (mC (.str "empty"))) (mRet (mUn (gFld "Statement" "own_one") (mVar 0))) mSkip)
  (mSeq (mIf (mBT (gEq false) (mUn (gFld "Statement" "own_relation") (mVar 0)) (mC (.str "within"))) (mRet (mBin (gOwn "Term" gSub G_Term___sub__ G_Term___rsub__) (mUn (gFld "Statement" "own_one") (mVar 0)) (mUn (gFld "Statement" "own_other") (mVar 0)))) mSkip)
  (mRet (mAp G_difference (mCons (mUn (gFld "Statement" "own_one") (mVar 0)) (mCons (mUn (gFld "Statement" "own_other") (mVar 0)) mNil))))))
noncomputable def G_Statement_rest : Fn := runB 1 sh_Statement_rest
noncomputable def sh_Statement_terms : SS := (mRet (mIfE (mBT (gIs false) (mUn (gFld "Statement" "own_other") (mVar 0)) (mC .non)) (mAp gLst (mCons (mUn (gFld "Statement" "own_one") (mVar 0)) mNil)) (mAp gLst (mCons (mUn (gFld "Statement" "own_one") (mVar 0)) (mCons (mUn (gFld "Statement" "own_other") (mVar 0)) mNil)))))
noncomputable def G_Statement_terms : Fn := runB 1 sh_Statement_terms
noncomputable def sh_Statement_names : SS := (mSeq (mAsg mDNewR (gNm 1))
  (mSeq (mFor (mItems (mMeth "Statement" "terms" G_Statement_terms (mVar 0) mNil)) (gNm 2) (mExpr (gMetD gDUpd (mVar 1) (mCons (mDc (mItems (mMeth "Term" "names" G_Term_names (mVar 2) mNil)) [3] (gNm 3) mYes (mVar 3) (mC (.bl true))) mNil))))
  (mRet (mAp (g1 gSrtSR) (mCons (mAp (g1 gListD) (mCons (mVar 1) mNil)) mNil)))))
noncomputable def G_Statement_names : Fn := runB 4 sh_Statement_names
noncomputable def sh_Statement_text : SS := (mSeq (mIf (mBT (gEq false) (mUn (gFld "Statement" "own_relation") (mVar 0)) (mC (.str "empty"))) (mRet (mJoined [(mFmtO "Term" G_Term___str__ (mUn (gFld "Statement" "own_one") (mVar 0))), (mFmt (mC c_EMPTY))])) mSkip)
  (mRet (mJoined [(mFmtO "Term" G_Term___str__ (mUn (gFld "Statement" "own_one") (mVar 0))), (mFmt (mCDict c_MIDDLES (mUn (gFld "Statement" "own_relation") (mVar 0)))), (mFmtO "Term" G_Term___str__ (mUn (gFld "Statement" "own_other") (mVar 0)))])))
noncomputable def G_Statement_text : Fn := runB 1 sh_Statement_text
noncomputable def sh_Statement___str__ : SS := (mRet (mFmt (mMeth "Statement" "text" G_Statement_text (mVar 0) mNil)))
noncomputable def G_Statement___str__ : Fn := runB 1 sh_Statement___str__
noncomputable def sh_Statement___eq__ : SS := (mRet (mAndV (mAp (gIsi (ktC "Statement")) (mCons (mVar 1) (mCons (mC (.gl "Statement")) mNil))) (mBin (gEq false) (mMeth "Statement" "text" G_Statement_text (mVar 0) mNil) (mMeth "Statement" "text" G_Statement_text (mVar 1) mNil))))
noncomputable def G_Statement___eq__ : Fn := runB 2 sh_Statement___eq__
noncomputable def sh_Statement___repr__ : SS := (mRet (mJoined [(mC (.str "Statement(")), (mFmt (mMeth "Statement" "text" G_Statement_text (mVar 0) mNil)), (mC (.str ")"))]))
noncomputable def G_Statement___repr__ : Fn := runB 1 sh_Statement___repr__
noncomputable def sh__law_extra : SS := (mSeq (mIf (mBT (gEq false) (mUn (gXFld cs_code "code") (mVar 0)) (mC (.str "InvalidStep"))) (mRet (mUn (gXFld cs_path "path") (mVar 0))) mSkip)
  (mSeq (mIf (mBT (gIn false) (mUn (gXFld cs_code "code") (mVar 0)) (mAp gTup (mCons (mC (.str "InvalidText")) (mCons (mC (.str "InvalidPage")) mNil)))) (mRet (mUn (gXFld cs_line "line") (mVar 0))) mSkip)
  (mSeq (mIf (mBT (gEq false) (mUn (gXFld cs_code "code") (mVar 0)) (mC (.str "InvalidCommand"))) (mRet (mUn (gXFld cs_word "word") (mVar 0))) mSkip)
  (mSeq (mIf (mBT (gIn false) (mUn (gXFld cs_code "code") (mVar 0)) (mAp gTup (mCons (mC (.str "TooDeep")) (mCons (mC (.str "TooMany")) mNil)))) (mRet (mUn (gXFld cs_limit "limit") (mVar 0))) mSkip)
  (mSeq (mIf (mBT (gEq false) (mUn (gXFld cs_code "code") (mVar 0)) (mC (.str "InUse"))) (mRet (mUn (gXFld cs_user "user") (mVar 0))) mSkip)
  (mSeq (mIf (mBT (gEq false) (mUn (gXFld cs_code "code") (mVar 0)) (mC (.str "Breaks"))) (mRet (mAp gTup (mCons (mUn (gXFld cs_fact_name "fact_name") (mVar 0)) (mCons (mUn (gXFld cs_sheet_name "sheet_name") (mVar 0)) mNil)))) mSkip)
  (mRet (mIfE (mBT (gIn false) (mUn (gXFld cs_code "code") (mVar 0)) (mAp gTup (mCons (mC (.str "Unlike")) (mCons (mC (.str "Apart")) (mCons (mC (.str "NothingLeft")) mNil))))) (mC .non) (mUn (gXFld cs_value "value") (mVar 0))))))))))
noncomputable def G__law_extra : Fn := runB 1 sh__law_extra
noncomputable def sh_Statement_empty : SS := (mRet (mAp (gMake "Statement" ["own_relation", "own_one", "own_other"]) (mCons (mC (.str "empty")) (mCons (mAp G_Term_of (mCons (mVar 0) mNil)) (mCons (mC .non) mNil)))))
noncomputable def G_Statement_empty : Fn := runB 1 sh_Statement_empty
noncomputable def sh_lam0 : SM W := (mAp G_Statement_empty (mCons (mVar 0) mNil))
noncomputable def G_lam0 : Fn := runL L_0 sh_lam0
noncomputable def sh_Statement_within : SS := (mRet (mAp (gMake "Statement" ["own_relation", "own_one", "own_other"]) (mCons (mC (.str "within")) (mCons (mAp G_Term_of (mCons (mVar 0) mNil)) (mCons (mAp G_Term_of (mCons (mVar 1) mNil)) mNil)))))
noncomputable def G_Statement_within : Fn := runB 2 sh_Statement_within
noncomputable def sh_lam1 : SM W := (mAp G_Statement_within (mCons (mVar 0) (mCons (mC .non) mNil)))
noncomputable def G_lam1 : Fn := runL L_1 sh_lam1
noncomputable def sh_lam2 : SM W := (mAp G_Statement_within (mCons (mBin gIx (mVar 1) (mC (.int 0))) (mCons (mVar 0) mNil)))
noncomputable def G_lam2 : Fn := runL L_2 sh_lam2
noncomputable def sh_Statement_equal : SS := (mRet (mAp (gMake "Statement" ["own_relation", "own_one", "own_other"]) (mCons (mC (.str "equal")) (mCons (mAp G_Term_of (mCons (mVar 0) mNil)) (mCons (mAp G_Term_of (mCons (mVar 1) mNil)) mNil)))))
noncomputable def G_Statement_equal : Fn := runB 2 sh_Statement_equal
noncomputable def sh_lam3 : SM W := (mCallK [0, 1] G_Statement_equal mNil (mCons (mVar 0) (mCons (mVar 0) mNil)))
noncomputable def G_lam3 : Fn := runL L_3 sh_lam3
noncomputable def sh_lam4 : SM W := (mAp G_Statement_equal (mCons (mBin gIx (mVar 1) (mC (.int 0))) (mCons (mVar 0) mNil)))
noncomputable def G_lam4 : Fn := runL L_4 sh_lam4
noncomputable def sh_lam5 : SM W := (mMeth "Statement" "text" G_Statement_text (mCallK [0] G_Statement_empty mNil (mCons (mBin gIx (mVar 0) (mC (.int 0))) mNil)) mNil)
noncomputable def G_lam5 : Fn := runL L_5 sh_lam5
noncomputable def F_clo : Nat → Fn := fun j => match j with
  | 0 => G_lam0
  | 1 => G_lam1
  | 2 => G_lam2
  | 3 => G_lam3
  | 4 => G_lam4
  | 5 => G_lam5
  | _ => fun _ _ => .bad
noncomputable def sh__law_why : SS := (mTryT 2 (fun c => kx_tab.lookup c) 1 (mRet (mAp gTup (mCons (mC (.str "value")) (mCons (mAct F_clo (mVar 0)) mNil)))) (mRet (mAp gTup (mCons (mUn (gXFld cs_code "code") (mVar 1)) (mCons (mAp (fun ws S => nox (G__law_extra ws S)) (mCons (mVar 1) mNil)) mNil)))))
noncomputable def G__law_why : Fn := runB 2 sh__law_why
noncomputable def sh__law_whys : SS := (mRet (mLc (mItems (mVar 0)) [1] (gNm 1) mYes (mAp G__law_why (mCons (mVar 1) mNil))))
noncomputable def G__law_whys : Fn := runB 2 sh__law_whys
noncomputable def sh__law_rest : SS := (mSeq (mAsg (mVar 0) (gTp 3 (gCons (gNm 1) (gCons (gNm 2) (gCons (gNm 3) gNil)))))
  (mSeq (mIf (mBT (gEq false) (mVar 1) (mC (.str "empty"))) (mRet (mVar 2)) mSkip)
  (mRet (mIfE (mBT (gEq false) (mVar 1) (mC (.str "within"))) (mAp gTup (mCons (mC (.str "less")) (mCons (mVar 2) (mCons (mVar 3) mNil)))) (mAp gTup (mCons (mC (.str "or")) (mCons (mAp gTup (mCons (mC (.str "less")) (mCons (mVar 2) (mCons (mVar 3) mNil)))) (mCons (mAp gTup (mCons (mC (.str "less")) (mCons (mVar 3) (mCons (mVar 2) mNil)))) mNil))))))))
noncomputable def G__law_rest : Fn := runB 4 sh__law_rest
noncomputable def sh__law_saying : SS := (mSeq (mPar 3 4 (mCons (mAp G__law_one (mCons (mVar 0) (mCons (mAp gLst (mCons (mC (.str "empty")) (mCons (mC (.str "within")) (mCons (mC (.str "equal")) (mCons (mC (.str "within")) mNil))))) mNil))) (mCons (mAp (G__law_form 10) (mCons (mVar 0) (mCons (mVar 1) (mCons (mVar 2) mNil)))) mNil)))
  (mRet (mAp gTup (mCons (mVar 3) (mCons (mVar 4) (mCons (mIfE (mBT (gEq false) (mVar 3) (mC (.str "empty"))) (mC .non) (mAp (G__law_form 10) (mCons (mVar 0) (mCons (mVar 1) (mCons (mVar 2) mNil))))) mNil))))))
noncomputable def G__law_saying : Fn := runB 5 sh__law_saying
noncomputable def sh__law_saying_text : SS := (mSeq (mAsg (mVar 0) (gTp 3 (gCons (gNm 1) (gCons (gNm 2) (gCons (gNm 3) gNil)))))
  (mSeq (mIf (mBT (gEq false) (mVar 1) (mC (.str "empty"))) (mRet (mBin gAdd (mAp (G__law_text 24) (mCons (mVar 2) mNil)) (mC (.str " is empty")))) mSkip)
  (mRet (mBin gAdd (mBin gAdd (mAp (G__law_text 24) (mCons (mVar 2) mNil)) (mIfE (mBT (gEq false) (mVar 1) (mC (.str "within"))) (mC (.str " within ")) (mC (.str " = ")))) (mAp (G__law_text 24) (mCons (mVar 3) mNil))))))
noncomputable def G__law_saying_text : Fn := runB 4 sh__law_saying_text
noncomputable def sh__law_statement : SS := (mSeq (mAsg (mVar 0) (gTp 3 (gCons (gNm 1) (gCons (gNm 2) (gCons (gNm 3) gNil)))))
  (mSeq (mIf (mBT (gEq false) (mVar 1) (mC (.str "empty"))) (mRet (mAp G_Statement_empty (mCons (mAp (G__law_term 10) (mCons (mVar 2) mNil)) mNil))) mSkip)
  (mRet (mIfE (mBT (gEq false) (mVar 1) (mC (.str "within"))) (mAp G_Statement_within (mCons (mAp (G__law_term 10) (mCons (mVar 2) mNil)) (mCons (mAp (G__law_term 10) (mCons (mVar 3) mNil)) mNil))) (mAp G_Statement_equal (mCons (mAp (G__law_term 10) (mCons (mVar 2) mNil)) (mCons (mAp (G__law_term 10) (mCons (mVar 3) mNil)) mNil)))))))
noncomputable def G__law_statement : Fn := runB 4 sh__law_statement
noncomputable def sh_law : SS := (mSeq (mAsg (mAp G__law_cells (mCons (mVar 0) mNil)) (gNm 1))
  (mSeq (mAsg (mAp G__law_words (mCons (mVar 1) (mCons (mC (.int 3)) mNil))) (gNm 2))
  (mSeq (mFor (mRange1 (mCons (mC (.int 5)) mNil)) (gNm 3) (mSeq (mPar 10 11 (mCons (mAp G__law_saying (mCons (mVar 1) (mCons (mVar 2) (mCons (mC (.int 3)) mNil)))) (mCons (mAp G__law_saying (mCons (mVar 1) (mCons (mVar 2) (mCons (mC (.int 2)) mNil)))) mNil)))
  (mSeq (mPar 12 13 (mCons (mAp G__law_statement (mCons (mVar 10) mNil)) (mCons (mAp G__law_saying_text (mCons (mVar 10) mNil)) mNil)))
  (mSeq (mAsg (mLc (mItems (mSl (mVar 10) (mPart (mC (.int 1))) mNoPart)) [16] (gNm 16) (mBT (gIs true) (mVar 16) (mC .non)) (mVar 16)) (gNm 6))
  (mSeq (mAsg (mAp gLst (mCons (mMeth "Statement" "text" G_Statement_text (mVar 12) mNil) (mCons (mAp (g1 (gOwnS "Statement" G_Statement___str__)) (mCons (mVar 12) mNil)) (mCons (mAp (g1 (gOwnS "Statement" G_Statement___repr__)) (mCons (mVar 12) mNil)) (mCons (mProp "Statement" G_Statement_relation (mVar 12)) (mCons (mMeth "Term" "text" G_Term_text (mProp "Statement" G_Statement_one (mVar 12)) mNil) (mCons (mIfE (mBT (gIs false) (mProp "Statement" G_Statement_other (mVar 12)) (mC .non)) (mC .non) (mMeth "Term" "text" G_Term_text (mProp "Statement" G_Statement_other (mVar 12)) mNil)) (mCons (mMeth "Statement" "names" G_Statement_names (mVar 12) mNil) (mCons (mMeth "Term" "text" G_Term_text (mMeth "Statement" "rest" G_Statement_rest (mVar 12) mNil) mNil) mNil))))))))) (gNm 7))
  (mSeq (mAsg (mAp gLst (mCons (mVar 13) (mCons (mVar 13) (mCons (mBin gAdd (mBin gAdd (mC (.str "Statement(")) (mVar 13)) (mC (.str ")"))) (mCons (mBin gIx (mVar 10) (mC (.int 0))) (mCons (mAp (G__law_text 24) (mCons (mBin gIx (mVar 10) (mC (.int 1))) mNil)) (mCons (mIfE (mBT (gIs false) (mBin gIx (mVar 10) (mC (.int 2))) (mC .non)) (mC .non) (mAp (G__law_text 24) (mCons (mBin gIx (mVar 10) (mC (.int 2))) mNil))) mNil))))))) (gNm 8))
  (mSeq (mIf (mNotT (mTru (mAp (G__law_same 10) (mCons (mVar 7) (mCons (mBin gAdd (mVar 8) (mAp gLst (mCons (mAp (G__law_names_in 10) (mCons (mVar 6) mNil)) (mCons (mAp (G__law_text 24) (mCons (mAp G__law_rest (mCons (mVar 10) mNil)) mNil)) mNil)))) mNil))))) (mRet (mC (.bl false))) mSkip)
  (mSeq (mPar 14 15 (mCons (mBin (gOwnEq "Statement" false (gEq false) G_Statement___eq__) (mVar 13) (mAp G__law_saying_text (mCons (mVar 11) mNil))) (mCons (mAp G__law_statement (mCons (mVar 11) mNil)) mNil)))
  (mSeq (mAsg (mAp gLst (mCons (mBin (gOwnEq "Statement" false (gEq false) G_Statement___eq__) (mAp G_Statement_read (mCons (mVar 13) mNil)) (mVar 12)) (mCons (mMeth "Statement" "text" G_Statement_text (mCallK [0] G_Statement_read mNil (mCons (mVar 13) mNil)) mNil) (mCons (mBin (gOwnEq "Statement" false (gEq false) G_Statement___eq__) (mVar 12) (mVar 15)) (mCons (mBin (gOwnEq "Statement" true (gEq true) G_Statement___eq__) (mVar 12) (mVar 15)) (mCons (mBin (gOwnEq "Statement" false (gEq false) G_Statement___eq__) (mVar 12) (mVar 13)) mNil)))))) (gNm 9))
  (mSeq (mIf (mNotT (mTru (mAp (G__law_same 10) (mCons (mVar 9) (mCons (mAp gLst (mCons (mC (.bl true)) (mCons (mVar 13) (mCons (mVar 14) (mCons (mNotV (mVar 14)) (mCons (mC (.bl false)) mNil)))))) mNil))))) (mRet (mC (.bl false))) mSkip)
  (mExpr (gMetL gAppend (mMeth "Statement" "names" G_Statement_names (mVar 12) mNil) (mCons (mC (.str "a")) mNil)))))))))))))
  (mSeq (mAsg (mAp G__law_one (mCons (mVar 1) (mCons (mAp gLst (mCons (mC .non) (mCons (mC (.int 3)) (mCons (mC (.str "A")) (mCons (mC (.str "")) (mCons (mC (.str "(b | c)")) (mCons (mC (.bl true)) (mCons (mAp gTup (mCons (mC (.str "b")) mNil)) mNil)))))))) mNil))) (gNm 4))
  (mSeq (mAsg (mAp gLst (mCons (mLam 0 "law" 0) (mCons (mLam 0 "law" 1) (mCons (mLam 0 "law" 2) (mCons (mLam 0 "law" 3) (mCons (mLam 0 "law" 4) (mCons (mLam 0 "law" 5) mNil))))))) (gNm 5))
  (mRet (mAp (G__law_same 10) (mCons (mCallC [(0, [4]), (1, [4]), (2, [4, 2]), (3, [4]), (4, [4, 2]), (5, [2])] G__law_whys (mCons (mVar 5) mNil)) (mCons (mBin gAdd (mBin gMul (mAp gLst (mCons (mAp gTup (mCons (mC (.str "InvalidTerm")) (mCons (mVar 4) mNil))) mNil)) (mC (.int 5))) (mAp gLst (mCons (mAp gTup (mCons (mC (.str "value")) (mCons (mBin gAdd (mBin gIx (mVar 2) (mC (.int 0))) (mC (.str " is empty"))) mNil))) mNil))) mNil)))))))))
noncomputable def G_law : Fn := runMk 17 sh_law
structure Txt (w : World) (K : PySem.W.Frag) (mg : Str → Option Value) : Prop where
  z_all : mg "all" = none
  z_bool : mg "bool" = none
  z_int : mg "int" = none
  z_isinstance : mg "isinstance" = none
  z_len : mg "len" = none
  z_list : mg "list" = none
  z_max : mg "max" = none
  z_range : mg "range" = none
  z_repr : mg "repr" = none
  z_set : mg "set" = none
  z_sorted : mg "sorted" = none
  z_str : mg "str" = none
  z_sum : mg "sum" = none
  z_super : mg "super" = none
  z_tuple : mg "tuple" = none
  z_zip : mg "zip" = none
  c_EMPTY : KCon K mg "EMPTY" c_EMPTY
  c_LETTERS : KCon K mg "LETTERS" c_LETTERS
  c_MOST_DEEP : KCon K mg "MOST_DEEP" c_MOST_DEEP
  c_MOST_LETTERS : KCon K mg "MOST_LETTERS" c_MOST_LETTERS
  c_MOST_PARTS : KCon K mg "MOST_PARTS" c_MOST_PARTS
  c_RESERVED : KCon K mg "RESERVED" c_RESERVED
  c_WORDS : KCon K mg "WORDS" c_WORDS
  ki_SIGNS : KInT K mg w "SIGNS" k_SIGNS
  ks_MIDDLES : KSeqT K mg w "MIDDLES" k_MIDDLES
  fm_Term : FmtT K mg "Term"
  ra_InvalidTerm : RaT K mg "InvalidTerm"
  ra_InvalidText : RaT K mg "InvalidText"
  kx : KxTx K mg "MapError" "Missing" "NothingLeft" kx_tab
  d_MIDDLES : KDTab K mg w "MIDDLES" c_MIDDLES
  d_SHOWN : KDTab K mg w "SHOWN" c_SHOWN
  d_SIGNS : KDTab K mg w "SIGNS" c_SIGNS
  k_Statement : KCon K mg "Statement" (.gl "Statement")
  k_Term : KCon K mg "Term" (.gl "Term")
  fl_Reader_place : FldT K mg "Reader" "place"
  fl_Reader_source : FldT K mg "Reader" "source"
  fl_Statement_own_one : FldT K mg "Statement" "own_one"
  fl_Statement_own_other : FldT K mg "Statement" "own_other"
  fl_Statement_own_relation : FldT K mg "Statement" "own_relation"
  fl_Term_deep : FldT K mg "Term" "deep"
  fl_Term_node : FldT K mg "Term" "node"
  fl_Term_part_count : FldT K mg "Term" "part_count"
  is_Statement : IsT K mg "Statement"
  is_Term : IsT K mg "Term"
  x_InvalidTerm : XTx K mg "InvalidTerm" s_InvalidTerm "self" p_InvalidTerm l_InvalidTerm "/claim/cut.py"
  x_InvalidText : XTx K mg "InvalidText" s_InvalidText "self" p_InvalidText l_InvalidText "/claim/cut.py"
  xf_code : XfT K mg cs_code "code"
  xf_fact_name : XfT K mg cs_fact_name "fact_name"
  xf_limit : XfT K mg cs_limit "limit"
  xf_line : XfT K mg cs_line "line"
  xf_path : XfT K mg cs_path "path"
  xf_sheet_name : XfT K mg cs_sheet_name "sheet_name"
  xf_user : XfT K mg cs_user "user"
  xf_value : XfT K mg cs_value "value"
  xf_word : XfT K mg cs_word "word"
  eq_Statement : ∀ C, mg "Statement" = some (.ref C) → OwnEq K C
  op_and : ∀ f r C, mg "Term" = some (.ref C) → Meth K C "__and__" f → Meth K C "__rand__" r → OwnOp K C .BitAnd f r
  op_or : ∀ f r C, mg "Term" = some (.ref C) → Meth K C "__or__" f → Meth K C "__ror__" r → OwnOp K C .BitOr f r
  op_sub : ∀ f r C, mg "Term" = some (.ref C) → Meth K C "__sub__" f → Meth K C "__rsub__" r → OwnOp K C .Sub f r
  f_node_text : FTx K mg "node_text" s_node_text ["node"]
  f_Term_text : MTx K mg "Term" "text" "Term.text" s_Term_text ["self"]
  f_inner_nodes : FTx K mg "inner_nodes" s_inner_nodes ["node"]
  f_depth_in : FTx K mg "depth_in" s_depth_in ["node", "deep"]
  f_parts_in : FTx K mg "parts_in" s_parts_in ["node", "many"]
  f_Term___init__ : MkTx K mg "Term" "Term.__init__" s_Term___init__ ["self", "node", "deep", "many"] ["node", "deep", "part_count"]
  f_need_size : FTx K mg "need_size" s_need_size ["deep", "many"]
  f_sized_term : FTx K mg "sized_term" s_sized_term ["node"]
  f_Reader___init__ : MkTx K mg "Reader" "Reader.__init__" s_Reader___init__ ["self", "text"] ["source", "place"]
  f_is_name : FTx K mg "is_name" s_is_name ["value"]
  f_Reader_take : MTx K mg "Reader" "take" "Reader.take" s_Reader_take ["self", "text"]
  f_Reader_letters_here : MTx K mg "Reader" "letters_here" "Reader.letters_here" s_Reader_letters_here ["self"]
  f_Reader_pair : MTx K mg "Reader" "pair" "Reader.pair" s_Reader_pair ["self", "level"]
  f_Reader_part : MTx K mg "Reader" "part" "Reader.part" s_Reader_part ["self", "level"]
  f_Term_read : StTx K mg "Term" "read" "Term.read" s_Term_read ["text"]
  f_Statement___init__ : MkTx K mg "Statement" "Statement.__init__" s_Statement___init__ ["self", "relation", "one", "other"] ["own_relation", "own_one", "own_other"]
  f_Statement_read : StTx K mg "Statement" "read" "Statement.read" s_Statement_read ["text"]
  f_Statement_relation : PrTx K mg "Statement" "relation" "Statement.relation" s_Statement_relation ["self"]
  f_Statement_one : PrTx K mg "Statement" "one" "Statement.one" s_Statement_one ["self"]
  f_Statement_other : PrTx K mg "Statement" "other" "Statement.other" s_Statement_other ["self"]
  f_Term_of : StTx K mg "Term" "of" "Term.of" s_Term_of ["value"]
  f_joined : StarTx K mg "joined" s_joined ["word"] "values"
  f_Term___sub__ : MTx K mg "Term" "__sub__" "Term.__sub__" s_Term___sub__ ["self", "other"]
  f_Term___rsub__ : MTx K mg "Term" "__rsub__" "Term.__rsub__" s_Term___rsub__ ["self", "other"]
  f_Term___or__ : MTx K mg "Term" "__or__" "Term.__or__" s_Term___or__ ["self", "other"]
  f_Term___ror__ : MTx K mg "Term" "__ror__" "Term.__ror__" s_Term___ror__ ["self", "other"]
  f_Term_depth : MTx K mg "Term" "depth" "Term.depth" s_Term_depth ["self"]
  f_difference : FTx K mg "difference" s_difference ["one", "other"]
  f_Statement_rest : MTx K mg "Statement" "rest" "Statement.rest" s_Statement_rest ["self"]
  f_node_names : FTx K mg "node_names" s_node_names ["node"]
  f_Term_names : MTx K mg "Term" "names" "Term.names" s_Term_names ["self"]
  f_Statement_terms : MTx K mg "Statement" "terms" "Statement.terms" s_Statement_terms ["self"]
  f_Statement_names : MTx K mg "Statement" "names" "Statement.names" s_Statement_names ["self"]
  f_Term___str__ : MTx K mg "Term" "__str__" "Term.__str__" s_Term___str__ ["self"]
  f_Statement_text : MTx K mg "Statement" "text" "Statement.text" s_Statement_text ["self"]
  f_Statement___str__ : MTx K mg "Statement" "__str__" "Statement.__str__" s_Statement___str__ ["self"]
  f_Statement___eq__ : MTx K mg "Statement" "__eq__" "Statement.__eq__" s_Statement___eq__ ["self", "other"]
  f_Statement___repr__ : MTx K mg "Statement" "__repr__" "Statement.__repr__" s_Statement___repr__ ["self"]
  f__law_cells : FTx K mg "_law_cells" s__law_cells ["_law_script"]
  f__law_draw : FTx K mg "_law_draw" s__law_draw ["_law_bag", "_law_sides"]
  f__law_one : FTx K mg "_law_one" s__law_one ["_law_bag", "_law_things"]
  f__law_same : FTx K mg "_law_same" s__law_same ["_law_found", "_law_due"]
  f__law_extra : FTx K mg "_law_extra" s__law_extra ["_law_e"]
  f_Statement_empty : StTx K mg "Statement" "empty" "Statement.empty" s_Statement_empty ["term"]
  f_Statement_within : StTx K mg "Statement" "within" "Statement.within" s_Statement_within ["one", "other"]
  f_Statement_equal : StTx K mg "Statement" "equal" "Statement.equal" s_Statement_equal ["one", "other"]
  f__law_why : FTx K mg "_law_why" s__law_why ["_law_ask"]
  f__law_whys : FTx K mg "_law_whys" s__law_whys ["_law_asks"]
  f__law_words : FTx K mg "_law_words" s__law_words ["_law_bag", "_law_many"]
  f__law_text : FTx K mg "_law_text" s__law_text ["_law_form_here"]
  f__law_names_in : FTx K mg "_law_names_in" s__law_names_in ["_law_forms"]
  f__law_rest : FTx K mg "_law_rest" s__law_rest ["_law_saying_here"]
  f__law_leaf : FTx K mg "_law_leaf" s__law_leaf ["_law_bag", "_law_names"]
  f__law_form : FTx K mg "_law_form" s__law_form ["_law_bag", "_law_names", "_law_deep"]
  f__law_saying : FTx K mg "_law_saying" s__law_saying ["_law_bag", "_law_names", "_law_deep"]
  f__law_saying_text : FTx K mg "_law_saying_text" s__law_saying_text ["_law_saying_here"]
  f_Term_whole : StTx K mg "Term" "whole" "Term.whole" s_Term_whole []
  f_Term_nothing : StTx K mg "Term" "nothing" "Term.nothing" s_Term_nothing []
  f_Term___and__ : MTx K mg "Term" "__and__" "Term.__and__" s_Term___and__ ["self", "other"]
  f_Term___rand__ : MTx K mg "Term" "__rand__" "Term.__rand__" s_Term___rand__ ["self", "other"]
  f_Term___invert__ : MTx K mg "Term" "__invert__" "Term.__invert__" s_Term___invert__ ["self"]
  f_Term_closed : MTx K mg "Term" "closed" "Term.closed" s_Term_closed ["self"]
  f_Term_opened : MTx K mg "Term" "opened" "Term.opened" s_Term_opened ["self"]
  f_Term_rim : MTx K mg "Term" "rim" "Term.rim" s_Term_rim ["self"]
  f__law_term : FTx K mg "_law_term" s__law_term ["_law_form_here"]
  f__law_statement : FTx K mg "_law_statement" s__law_statement ["_law_saying_here"]
  f_law : FTx K mg "law" s_law ["_law_script"]
section
variable {P : Program} {w : World} {K : PySem.W.Frag} {mg : Str → Option Value} {base : Heap}
theorem sx_InvalidTerm : StX s_InvalidTerm "self" p_InvalidTerm l_InvalidTerm := ⟨⟨_, _, _, _, _, _, _, _, _, rfl, (.lit (.par REX.Asn.nil)), fun env => ⟨_, rfl⟩⟩, ⟨_, rfl, rfl⟩, by decide +kernel, rfl, rfl, rfl, by decide +kernel, by decide +kernel, rfl, rfl, by decide +kernel, by decide +kernel, fun _ _ _ _ _ _ _ _ us hl => match us, hl with | [_, _], _ => rfl, by decide +kernel, RL.hpar_of (by decide +kernel)⟩
theorem sx_InvalidText : StX s_InvalidText "self" p_InvalidText l_InvalidText := ⟨⟨_, _, _, _, _, _, _, _, _, rfl, (.lit (.par REX.Asn.nil)), fun env => ⟨_, rfl⟩⟩, ⟨_, rfl, rfl⟩, by decide +kernel, rfl, rfl, rfl, by decide +kernel, by decide +kernel, rfl, rfl, by decide +kernel, by decide +kernel, fun _ _ _ _ _ _ _ _ us hl => match us, hl with | [_, _], _ => rfl, by decide +kernel, RL.hpar_of (by decide +kernel)⟩
theorem sc_node_text : FnScope ["node", "word"] ["node"] (defScope s_node_text) := ⟨rfl, rfl, rfl, by decide +kernel, rfl, by decide +kernel, by decide +kernel⟩
theorem ok_node_text (T : Txt w K mg) (hP : REX.PrgOk P "/claim/cut.py") : ∀ n : Nat, FnE P w K mg base (0 + n) "node_text" s_node_text ["node"] (G_node_text n)
  | 0 => fnE_bad T.f_node_text
  | n + 1 => fn_e T.f_node_text sc_node_text fun f cdv A outer s H E hr tk => by
    have h_node_text := ok_node_text T hP n
    exact (psm_cons (psm_set 1 (pm_ix (pm_var 0) pm_int) sc_node_text.nd)
      (psm_cons (psm_if (ptm_cmp (om_in (hu65 hr)) (pm_var 1) (pm_tup (pam_cons pm_str (pam_cons pm_str pam_nil)))) (psm_one (psm_ret (pm_var 1))) psm_nil)
      (psm_cons (psm_if (ptm_cmp (om_eq (hu64 hr)) (pm_var 1) pm_str) (psm_one (psm_ret (pm_ix (pm_var 0) pm_int))) psm_nil)
      (psm_cons (psm_if (ptm_cmp (om_eq (hu64 hr)) (pm_var 1) pm_str) (psm_one (psm_ret (pm_bin om_add pm_str (pm_callE h_node_text hr (Nat.le_refl _) tk (pam_cons (pm_ix (pm_var 0) pm_int) pam_nil))))) psm_nil)
      (psm_cons (psm_if (ptm_cmp (om_in (hu65 hr)) (pm_var 1) (pm_glob T.c_WORDS)) (psm_one (psm_ret (pm_joined (.cons (pm_fmt (pm_var 1)) (.cons pm_str (.cons (pm_fmt (pm_callE h_node_text hr (Nat.le_refl _) tk (pam_cons (pm_ix (pm_var 0) pm_int) pam_nil))) (.cons pm_str .nil))))))) psm_nil)
      (psm_one (psm_ret (pm_joined (.cons pm_str (.cons (pm_fmt (pm_callE h_node_text hr (Nat.le_refl _) tk (pam_cons (pm_ix (pm_var 0) pm_int) pam_nil))) (.cons pm_str (.cons (pm_fmt (pm_cdict T.d_SHOWN (pm_var 1))) (.cons pm_str (.cons (pm_fmt (pm_callE h_node_text hr (Nat.le_refl _) tk (pam_cons (pm_ix (pm_var 0) pm_int) pam_nil))) (.cons pm_str .nil)))))))))))))))
theorem sc_Term_text : FnScope ["self"] ["self"] (defScope s_Term_text) := ⟨rfl, rfl, rfl, by decide +kernel, rfl, by decide +kernel, by decide +kernel⟩
theorem ok_Term_text (T : Txt w K mg) (hP : REX.PrgOk P "/claim/cut.py") (h_node_text : FnE P w K mg base 24 "node_text" s_node_text ["node"] (G_node_text 24)) : MeE P w K mg base 25 "Term" "text" "Term.text" s_Term_text ["self"] G_Term_text := me_e T.f_Term_text sc_Term_text fun f cdv A outer s H E hr tk => by
    exact (psm_one (psm_ret (pm_callE h_node_text hr (by decide) tk (pam_cons (pm_fld T.fl_Term_node (pm_var 0)) pam_nil))))
theorem sc_inner_nodes : FnScope ["node"] ["node"] (defScope s_inner_nodes) := ⟨rfl, rfl, rfl, by decide +kernel, rfl, by decide +kernel, by decide +kernel⟩
theorem ok_inner_nodes (T : Txt w K mg) (hP : REX.PrgOk P "/claim/cut.py") : FnE P w K mg base 1 "inner_nodes" s_inner_nodes ["node"] G_inner_nodes := fn_e T.f_inner_nodes sc_inner_nodes fun f cdv A outer s H E hr tk => by
    exact (psm_one (psm_ret (pm_ifExp (ptm_cmp (om_in (hu65 hr)) (pm_ix (pm_var 0) pm_int) (pm_tup (pam_cons pm_str (pam_cons pm_str (pam_cons pm_str pam_nil))))) (pm_tup pam_nil) (pm_slice (pm_var 0) (pom_some pm_int) pom_none))))
theorem sc_depth_in : FnScope ["node", "deep", "inner"] ["node", "deep"] (defScope s_depth_in) := ⟨rfl, rfl, rfl, by decide +kernel, rfl, by decide +kernel, by decide +kernel⟩
theorem ok_depth_in (T : Txt w K mg) (hP : REX.PrgOk P "/claim/cut.py") (h_inner_nodes : FnE P w K mg base 1 "inner_nodes" s_inner_nodes ["node"] G_inner_nodes) : ∀ n : Nat, FnE P w K mg base (1 + n) "depth_in" s_depth_in ["node", "deep"] (G_depth_in n)
  | 0 => fnE_bad T.f_depth_in
  | n + 1 => fn_e T.f_depth_in sc_depth_in fun f cdv A outer s H E hr tk => by
    have h_depth_in := ok_depth_in T hP h_inner_nodes n
    exact (psm_cons (psm_if (ptm_cmp (om_eq (hu64 hr)) (pm_ix (pm_var 0) pm_int) pm_str) (psm_one (psm_ret (pm_dget2 (hu_of hr) (pm_var 1) (pm_ix (pm_var 0) pm_int) pm_int))) psm_nil)
      (psm_one (psm_ret (pm_bin om_add pm_int (pm_callB (cm_max rfl) T.z_max (pam_cons (pm_bin om_add (pm_lst (pam_cons pm_int pam_nil)) (pm_lc (own := [("inner", 2)]) rfl sc_depth_in.nd (pim_any (pm_callE h_inner_nodes hr (Nat.le_trans (by decide : 1 ≤ 1) (Nat.le_add_right 1 _)) tk (pam_cons (pm_var 0) pam_nil))) (show blkC ["node", "deep", "inner"] (defScope s_depth_in) _ [("inner", 2)] = true by decide +kernel) ⟨fun _ _ _ _ _ => (pgm_name 2 sc_depth_in.nd), fun _ _ _ _ _ => ptsm_nil, fun _ _ _ _ _ => (pm_callE h_depth_in hr (Nat.le_refl _) takesE0 (pam_cons (pm_var 2) (pam_cons (pm_var 1) pam_nil)))⟩)) pam_nil))))))
theorem sc_parts_in : FnScope ["node", "many", "inner"] ["node", "many"] (defScope s_parts_in) := ⟨rfl, rfl, rfl, by decide +kernel, rfl, by decide +kernel, by decide +kernel⟩
theorem ok_parts_in (T : Txt w K mg) (hP : REX.PrgOk P "/claim/cut.py") (h_inner_nodes : FnE P w K mg base 1 "inner_nodes" s_inner_nodes ["node"] G_inner_nodes) : ∀ n : Nat, FnE P w K mg base (1 + n) "parts_in" s_parts_in ["node", "many"] (G_parts_in n)
  | 0 => fnE_bad T.f_parts_in
  | n + 1 => fn_e T.f_parts_in sc_parts_in fun f cdv A outer s H E hr tk => by
    have h_parts_in := ok_parts_in T hP h_inner_nodes n
    exact (psm_cons (psm_if (ptm_cmp (om_eq (hu64 hr)) (pm_ix (pm_var 0) pm_int) pm_str) (psm_one (psm_ret (pm_dget2 (hu_of hr) (pm_var 1) (pm_ix (pm_var 0) pm_int) pm_int))) psm_nil)
      (psm_one (psm_ret (pm_bin om_add pm_int (pm_callB (cm_sum rfl) T.z_sum (pam_cons (pm_lc (own := [("inner", 2)]) rfl sc_parts_in.nd (pim_any (pm_callE h_inner_nodes hr (Nat.le_trans (by decide : 1 ≤ 1) (Nat.le_add_right 1 _)) tk (pam_cons (pm_var 0) pam_nil))) (show blkC ["node", "many", "inner"] (defScope s_parts_in) _ [("inner", 2)] = true by decide +kernel) ⟨fun _ _ _ _ _ => (pgm_name 2 sc_parts_in.nd), fun _ _ _ _ _ => ptsm_nil, fun _ _ _ _ _ => (pm_callE h_parts_in hr (Nat.le_refl _) takesE0 (pam_cons (pm_var 2) (pam_cons (pm_var 1) pam_nil)))⟩) pam_nil))))))
theorem sc_Term___init__ : FnScope ["self", "node", "deep", "many"] ["self", "node", "deep", "many"] (defScope s_Term___init__) := ⟨rfl, rfl, rfl, by decide +kernel, rfl, by decide +kernel, by decide +kernel⟩
theorem ok_Term___init__ (T : Txt w K mg) : MkE P w K mg base 1 "Term" ["node", "deep", "part_count"] := mk_e (l := [("node", 1), ("deep", 2), ("part_count", 3)]) T.f_Term___init__ sc_Term___init__ rfl rfl (by decide) (by decide) rfl (by decide) fun C f cdv A outer s H E hc hn => by
    exact (psi_cons (x0 := "self") hc (hn _ (by simp)) (psi_cons (x0 := "self") hc (hn _ (by simp)) (psi_cons (x0 := "self") hc (hn _ (by simp)) psi_nil)))
theorem sc_need_size : FnScope ["deep", "many"] ["deep", "many"] (defScope s_need_size) := ⟨rfl, rfl, rfl, by decide +kernel, rfl, by decide +kernel, by decide +kernel⟩
theorem ok_need_size (T : Txt w K mg) (hP : REX.PrgOk P "/claim/cut.py") : FnE P w K mg base 1 "need_size" s_need_size ["deep", "many"] G_need_size := fn_e T.f_need_size sc_need_size fun f cdv A outer s H E hr tk => by
    exact (psm_cons (psm_if (ptm_cmp om_gt (pm_var 0) (pm_glob T.c_MOST_DEEP)) (psm_one psm_never) psm_nil)
      (psm_one (psm_if (ptm_cmp om_gt (pm_var 1) (pm_glob T.c_MOST_PARTS)) (psm_one psm_never) psm_nil)))
theorem sc_sized_term : FnScope ["node", "deep", "many"] ["node"] (defScope s_sized_term) := ⟨rfl, rfl, rfl, by decide +kernel, rfl, by decide +kernel, by decide +kernel⟩
theorem ok_sized_term (T : Txt w K mg) (hP : REX.PrgOk P "/claim/cut.py") (h_depth_in : FnE P w K mg base 17 "depth_in" s_depth_in ["node", "deep"] (G_depth_in 16)) (h_parts_in : FnE P w K mg base 17 "parts_in" s_parts_in ["node", "many"] (G_parts_in 16)) (h_Term___init__ : MkE P w K mg base 1 "Term" ["node", "deep", "part_count"]) (h_need_size : FnE P w K mg base 1 "need_size" s_need_size ["deep", "many"] G_need_size) : FnE P w K mg base 18 "sized_term" s_sized_term ["node"] G_sized_term := fn_e T.f_sized_term sc_sized_term fun f cdv A outer s H E hr tk => by
    exact (psm_cons (psm_par 1 2 rfl sc_sized_term.nd (pam_cons (pm_callE h_depth_in hr (by decide) tk (pam_cons (pm_var 0) (pam_cons pm_dnewR pam_nil))) (pam_cons (pm_callE h_parts_in hr (by decide) tk (pam_cons (pm_var 0) (pam_cons pm_dnewR pam_nil))) pam_nil)))
      (psm_cons (psm_expr (pm_callE h_need_size hr (by decide) tk (pam_cons (pm_var 1) (pam_cons (pm_var 2) pam_nil))))
      (psm_one (psm_ret (pm_make h_Term___init__ hr (by decide) tk (pam_cons (pm_var 0) (pam_cons (pm_var 1) (pam_cons (pm_var 2) pam_nil))))))))
theorem sc_Reader___init__ : FnScope ["self", "text"] ["self", "text"] (defScope s_Reader___init__) := ⟨rfl, rfl, rfl, by decide +kernel, rfl, by decide +kernel, by decide +kernel⟩
theorem ok_Reader___init__ (T : Txt w K mg) (hP : REX.PrgOk P "/claim/cut.py") : InE P w K mg base 1 "Reader" 2 G_Reader___init__ := in_e T.f_Reader___init__ sc_Reader___init__ fun f cdv A outer s H E hr tk => by
    exact (psm_cons (psm_putF T.fl_Reader_source (pm_var 0) (pm_var 1))
      (psm_one (psm_putF T.fl_Reader_place (pm_var 0) pm_int)))
theorem sc_is_name : FnScope ["value", "sign"] ["value"] (defScope s_is_name) := ⟨rfl, rfl, rfl, by decide +kernel, rfl, by decide +kernel, by decide +kernel⟩
theorem ok_is_name (T : Txt w K mg) (hP : REX.PrgOk P "/claim/cut.py") : FnE P w K mg base 1 "is_name" s_is_name ["value"] G_is_name := fn_e T.f_is_name sc_is_name fun f cdv A outer s H E hr tk => by
    exact (psm_cons (psm_if (PWM.pt (pwm_or (ptm_not (ptm_tru (pm_callB (cm_isi ktB_ok) T.z_isinstance (pam_cons (pm_var 0) (pam_cons (pm_ty (n := "str") T.z_str) pam_nil))))) (pwm_or (ptm_not (ptm_chain om_le om_le pm_int (pm_callB cm_len T.z_len (pam_cons (pm_var 0) pam_nil)) (pm_glob T.c_MOST_LETTERS))) (pwm_or1 (ptm_cmp (om_in (hu65 hr)) (pm_var 0) (pm_glob T.c_RESERVED)))))) (psm_one (psm_ret pm_bl)) psm_nil)
      (psm_one (psm_ret (pm_callB (cm_all rfl) T.z_all (pam_cons (pm_lc (own := [("sign", 1)]) rfl sc_is_name.nd (pim_any (pm_var 0)) (show blkC ["value", "sign"] (defScope s_is_name) _ [("sign", 1)] = true by decide +kernel) ⟨fun _ _ _ _ _ => (pgm_name 1 sc_is_name.nd), fun _ _ _ _ _ => ptsm_nil, fun _ _ _ _ _ => (pm_cmp (om_in (hu65 hr)) (pm_var 1) (pm_glob T.c_LETTERS))⟩) pam_nil)))))
theorem sc_Reader_take : FnScope ["self", "text"] ["self", "text"] (defScope s_Reader_take) := ⟨rfl, rfl, rfl, by decide +kernel, rfl, by decide +kernel, by decide +kernel⟩
theorem ok_Reader_take (T : Txt w K mg) (hP : REX.PrgOk P "/claim/cut.py") : MeE P w K mg base 1 "Reader" "take" "Reader.take" s_Reader_take ["self", "text"] G_Reader_take := me_e T.f_Reader_take sc_Reader_take fun f cdv A outer s H E hr tk => by
    exact (psm_cons (psm_if (ptm_not (ptm_tru (pm_starts3 (pm_fld T.fl_Reader_source (pm_var 0)) (pam_cons (pm_var 1) (pam_cons (pm_fld T.fl_Reader_place (pm_var 0)) pam_nil))))) (psm_one (psm_raiseX rfl tk T.x_InvalidText hP T.z_super hr T.ra_InvalidText (pam_cons pm_int pam_nil))) psm_nil)
      (psm_one (psm_augF T.fl_Reader_place (pm_var 0) (pm_callB cm_len T.z_len (pam_cons (pm_var 1) pam_nil)))))
theorem sc_Reader_letters_here : FnScope ["self", "start"] ["self"] (defScope s_Reader_letters_here) := ⟨rfl, rfl, rfl, by decide +kernel, rfl, by decide +kernel, by decide +kernel⟩
theorem ok_Reader_letters_here (T : Txt w K mg) (hP : REX.PrgOk P "/claim/cut.py") : MeE P w K mg base 1 "Reader" "letters_here" "Reader.letters_here" s_Reader_letters_here ["self"] G_Reader_letters_here := me_e T.f_Reader_letters_here sc_Reader_letters_here fun f cdv A outer s H E hr tk => by
    exact (psm_cons (psm_set 1 (pm_fld T.fl_Reader_place (pm_var 0)) sc_Reader_letters_here.nd)
      (psm_cons (psm_while 1000 (passes_of rfl) (PWM.pt (pwm_and (ptm_cmp (om_ne (hu64 hr)) (pm_slice (pm_fld T.fl_Reader_source (pm_var 0)) (pom_some (pm_fld T.fl_Reader_place (pm_var 0))) (pom_some (pm_bin om_add (pm_fld T.fl_Reader_place (pm_var 0)) pm_int))) pm_str) (pwm_and1 (ptm_cmp (om_in (hu65 hr)) (pm_ix (pm_fld T.fl_Reader_source (pm_var 0)) (pm_fld T.fl_Reader_place (pm_var 0))) (pm_glob T.c_LETTERS))))) (psm_one (psm_augF T.fl_Reader_place (pm_var 0) pm_int)))
      (psm_one (psm_ret (pm_slice (pm_fld T.fl_Reader_source (pm_var 0)) (pom_some (pm_var 1)) (pom_some (pm_fld T.fl_Reader_place (pm_var 0))))))))
theorem sc_Reader_pair : FnScope ["self", "level", "one", "sign", "other"] ["self", "level"] (defScope s_Reader_pair) := ⟨rfl, rfl, rfl, by decide +kernel, rfl, by decide +kernel, by decide +kernel⟩
theorem ok_Reader_pair (T : Txt w K mg) (hP : REX.PrgOk P "/claim/cut.py") (h_Reader_take : MeE P w K mg base 1 "Reader" "take" "Reader.take" s_Reader_take ["self", "text"] G_Reader_take) {j : Nat} {G_Reader_part' : Fn} (hb : 1 ≤ j) (h_Reader_part : MeE P w K mg base j "Reader" "part" "Reader.part" s_Reader_part ["self", "level"] G_Reader_part') : MeE P w K mg base (j + 1) "Reader" "pair" "Reader.pair" s_Reader_pair ["self", "level"] (G_Reader_pair G_Reader_part') := me_e T.f_Reader_pair sc_Reader_pair fun f cdv A outer s H E hr tk => by
    exact (psm_cons (psm_expr (pm_meth h_Reader_take hr (Nat.le_trans (by decide : 1 ≤ 1) hb) tk (pm_var 0) (pam_cons pm_str pam_nil)))
      (psm_cons (psm_set 2 (pm_meth h_Reader_part hr (Nat.le_refl _) tk (pm_var 0) (pam_cons (pm_bin om_add (pm_var 1) pm_int) pam_nil)) sc_Reader_pair.nd)
      (psm_cons (psm_expr (pm_meth h_Reader_take hr (Nat.le_trans (by decide : 1 ≤ 1) hb) tk (pm_var 0) (pam_cons pm_str pam_nil)))
      (psm_cons (psm_set 3 (pm_slice (pm_fld T.fl_Reader_source (pm_var 0)) (pom_some (pm_fld T.fl_Reader_place (pm_var 0))) (pom_some (pm_bin om_add (pm_fld T.fl_Reader_place (pm_var 0)) pm_int))) sc_Reader_pair.nd)
      (psm_cons (psm_if (ptm_cnin T.ki_SIGNS (pm_var 3)) (psm_one (psm_raiseX rfl tk T.x_InvalidText hP T.z_super hr T.ra_InvalidText (pam_cons pm_int pam_nil))) psm_nil)
      (psm_cons (psm_expr (pm_meth h_Reader_take hr (Nat.le_trans (by decide : 1 ≤ 1) hb) tk (pm_var 0) (pam_cons (pm_bin om_add (pm_var 3) pm_str) pam_nil)))
      (psm_cons (psm_set 4 (pm_meth h_Reader_part hr (Nat.le_refl _) tk (pm_var 0) (pam_cons (pm_bin om_add (pm_var 1) pm_int) pam_nil)) sc_Reader_pair.nd)
      (psm_cons (psm_expr (pm_meth h_Reader_take hr (Nat.le_trans (by decide : 1 ≤ 1) hb) tk (pm_var 0) (pam_cons pm_str pam_nil)))
      (psm_one (psm_ret (pm_tup (pam_cons (pm_cdict T.d_SIGNS (pm_var 3)) (pam_cons (pm_var 2) (pam_cons (pm_var 4) pam_nil))))))))))))))
theorem sc_Reader_part : FnScope ["self", "level", "sign", "word", "inner"] ["self", "level"] (defScope s_Reader_part) := ⟨rfl, rfl, rfl, by decide +kernel, rfl, by decide +kernel, by decide +kernel⟩
theorem ok_Reader_part (T : Txt w K mg) (hP : REX.PrgOk P "/claim/cut.py") (h_is_name : FnE P w K mg base 1 "is_name" s_is_name ["value"] G_is_name) (h_Reader_take : MeE P w K mg base 1 "Reader" "take" "Reader.take" s_Reader_take ["self", "text"] G_Reader_take) (h_Reader_letters_here : MeE P w K mg base 1 "Reader" "letters_here" "Reader.letters_here" s_Reader_letters_here ["self"] G_Reader_letters_here) : ∀ n : Nat, MeE P w K mg base (1 + 2 * n) "Reader" "part" "Reader.part" s_Reader_part ["self", "level"] (G_Reader_part n)
  | 0 => meE_bad T.f_Reader_part
  | n + 1 => by
    have h_Reader_part := ok_Reader_part T hP h_is_name h_Reader_take h_Reader_letters_here n
    have h_Reader_pair := ok_Reader_pair T hP h_Reader_take (j := 1 + 2 * n) (by omega) h_Reader_part
    exact (me_e (k := 1 + 2 * n + 1) T.f_Reader_part sc_Reader_part fun f cdv A outer s H E hr tk => by
      exact (psm_cons (psm_if (ptm_cmp om_gt (pm_var 1) (pm_glob T.c_MOST_DEEP)) (psm_one psm_never) psm_nil)
      (psm_cons (psm_set 2 (pm_slice (pm_fld T.fl_Reader_source (pm_var 0)) (pom_some (pm_fld T.fl_Reader_place (pm_var 0))) (pom_some (pm_bin om_add (pm_fld T.fl_Reader_place (pm_var 0)) pm_int))) sc_Reader_part.nd)
      (psm_cons (psm_if (ptm_cmp (om_eq (hu64 hr)) (pm_var 2) pm_str) (psm_cons (psm_expr (pm_meth h_Reader_take hr (Nat.le_trans (by decide : 1 ≤ 1) (Nat.le_succ_of_le (Nat.le_add_right 1 _))) tk (pm_var 0) (pam_cons pm_str pam_nil)))
      (psm_one (psm_ret (pm_tup (pam_cons pm_str (pam_cons (pm_meth h_Reader_part hr (Nat.le_succ _) tk (pm_var 0) (pam_cons (pm_bin om_add (pm_var 1) pm_int) pam_nil)) pam_nil)))))) psm_nil)
      (psm_cons (psm_if (ptm_cmp (om_eq (hu64 hr)) (pm_var 2) pm_str) (psm_one (psm_ret (pm_meth h_Reader_pair hr (Nat.le_refl _) tk (pm_var 0) (pam_cons (pm_var 1) pam_nil)))) psm_nil)
      (psm_cons (psm_set 3 (pm_meth0 h_Reader_letters_here hr (Nat.le_trans (by decide : 1 ≤ 1) (Nat.le_succ_of_le (Nat.le_add_right 1 _))) tk (pm_var 0)) sc_Reader_part.nd)
      (psm_cons (psm_if (ptm_cmp (om_in (hu65 hr)) (pm_var 3) (pm_tup (pam_cons pm_str (pam_cons pm_str pam_nil)))) (psm_one (psm_ret (pm_tup (pam_cons (pm_var 3) pam_nil)))) psm_nil)
      (psm_cons (psm_if (ptm_cmp (om_in (hu65 hr)) (pm_var 3) (pm_glob T.c_WORDS)) (psm_cons (psm_expr (pm_meth h_Reader_take hr (Nat.le_trans (by decide : 1 ≤ 1) (Nat.le_succ_of_le (Nat.le_add_right 1 _))) tk (pm_var 0) (pam_cons pm_str pam_nil)))
      (psm_cons (psm_set 4 (pm_meth h_Reader_part hr (Nat.le_succ _) tk (pm_var 0) (pam_cons (pm_bin om_add (pm_var 1) pm_int) pam_nil)) sc_Reader_part.nd)
      (psm_cons (psm_expr (pm_meth h_Reader_take hr (Nat.le_trans (by decide : 1 ≤ 1) (Nat.le_succ_of_le (Nat.le_add_right 1 _))) tk (pm_var 0) (pam_cons pm_str pam_nil)))
      (psm_one (psm_ret (pm_tup (pam_cons (pm_var 3) (pam_cons (pm_var 4) pam_nil)))))))) psm_nil)
      (psm_cons (psm_if (ptm_not (ptm_tru (pm_callE h_is_name hr (Nat.le_trans (by decide : 1 ≤ 1) (Nat.le_succ_of_le (Nat.le_add_right 1 _))) tk (pam_cons (pm_var 3) pam_nil)))) (psm_one (psm_raiseX rfl tk T.x_InvalidText hP T.z_super hr T.ra_InvalidText (pam_cons pm_int pam_nil))) psm_nil)
      (psm_one (psm_ret (pm_tup (pam_cons pm_str (pam_cons (pm_var 3) pam_nil))))))))))))))
theorem sc_Term_read : FnScope ["text", "reader", "node"] ["text"] (defScope s_Term_read) := ⟨rfl, rfl, rfl, by decide +kernel, rfl, by decide +kernel, by decide +kernel⟩
theorem ok_Term_read (T : Txt w K mg) (hP : REX.PrgOk P "/claim/cut.py") (h_sized_term : FnE P w K mg base 18 "sized_term" s_sized_term ["node"] G_sized_term) (h_Reader___init__ : InE P w K mg base 1 "Reader" 2 G_Reader___init__) (h_Reader_part : MeE P w K mg base 29 "Reader" "part" "Reader.part" s_Reader_part ["self", "level"] (G_Reader_part 14)) : StE P w K mg base 30 "Term" "read" "Term.read" s_Term_read ["text"] G_Term_read := st_e T.f_Term_read sc_Term_read fun f cdv A outer s H E hr tk => by
    exact (psm_cons (psm_if (ptm_not (ptm_tru (pm_callB (cm_isi ktB_ok) T.z_isinstance (pam_cons (pm_var 0) (pam_cons (pm_ty (n := "str") T.z_str) pam_nil))))) (psm_one (psm_raiseX rfl tk T.x_InvalidText hP T.z_super hr T.ra_InvalidText (pam_cons pm_int pam_nil))) psm_nil)
      (psm_cons (psm_set 1 (pm_makeI h_Reader___init__ hr (by decide) tk (pam_cons (pm_var 0) pam_nil)) sc_Term_read.nd)
      (psm_cons (psm_set 2 (pm_meth h_Reader_part hr (by decide) tk (pm_var 1) (pam_cons pm_int pam_nil)) sc_Term_read.nd)
      (psm_cons (psm_if (ptm_cmp (om_ne (hu64 hr)) (pm_fld T.fl_Reader_place (pm_var 1)) (pm_callB cm_len T.z_len (pam_cons (pm_var 0) pam_nil))) (psm_one (psm_raiseX rfl tk T.x_InvalidText hP T.z_super hr T.ra_InvalidText (pam_cons pm_int pam_nil))) psm_nil)
      (psm_one (psm_ret (pm_callE h_sized_term hr (by decide) tk (pam_cons (pm_var 2) pam_nil))))))))
theorem sc_Statement___init__ : FnScope ["self", "relation", "one", "other"] ["self", "relation", "one", "other"] (defScope s_Statement___init__) := ⟨rfl, rfl, rfl, by decide +kernel, rfl, by decide +kernel, by decide +kernel⟩
theorem ok_Statement___init__ (T : Txt w K mg) : MkE P w K mg base 1 "Statement" ["own_relation", "own_one", "own_other"] := mk_e (l := [("own_relation", 1), ("own_one", 2), ("own_other", 3)]) T.f_Statement___init__ sc_Statement___init__ rfl rfl (by decide) (by decide) rfl (by decide) fun C f cdv A outer s H E hc hn => by
    exact (psi_cons (x0 := "self") hc (hn _ (by simp)) (psi_cons (x0 := "self") hc (hn _ (by simp)) (psi_cons (x0 := "self") hc (hn _ (by simp)) psi_nil)))
theorem sc_Statement_read : FnScope ["text", "word", "one", "middle", "other"] ["text"] (defScope s_Statement_read) := ⟨rfl, rfl, rfl, by decide +kernel, rfl, by decide +kernel, by decide +kernel⟩
theorem ok_Statement_read (T : Txt w K mg) (hP : REX.PrgOk P "/claim/cut.py") (h_Term_read : StE P w K mg base 30 "Term" "read" "Term.read" s_Term_read ["text"] G_Term_read) (h_Statement___init__ : MkE P w K mg base 1 "Statement" ["own_relation", "own_one", "own_other"]) : StE P w K mg base 31 "Statement" "read" "Statement.read" s_Statement_read ["text"] G_Statement_read := st_e T.f_Statement_read sc_Statement_read fun f cdv A outer s H E hr tk => by
    exact (psm_cons (psm_if (ptm_not (ptm_tru (pm_callB (cm_isi ktB_ok) T.z_isinstance (pam_cons (pm_var 0) (pam_cons (pm_ty (n := "str") T.z_str) pam_nil))))) (psm_one (psm_raiseX rfl tk T.x_InvalidText hP T.z_super hr T.ra_InvalidText (pam_cons pm_int pam_nil))) psm_nil)
      (psm_cons (psm_if (ptm_tru (pm_ends (pm_var 0) (pm_glob T.c_EMPTY))) (psm_one (psm_ret (pm_make h_Statement___init__ hr (by decide) tk (pam_cons pm_str (pam_cons (pm_stat h_Term_read hr (by decide) tk (pam_cons (pm_slice (pm_var 0) pom_none (pom_some (pm_bin om_sub (pm_callB cm_len T.z_len (pam_cons (pm_var 0) pam_nil)) (pm_callB cm_len T.z_len (pam_cons (pm_glob T.c_EMPTY) pam_nil))))) pam_nil)) (pam_cons pm_non pam_nil)))))) psm_nil)
      (psm_cons (psm_for (vs := [1]) (passes_of rfl) rfl (pim_written T.ks_MIDDLES) (pgm_name 1 sc_Statement_read.nd) (psm_cons (psm_asg (vs := [2, 3, 4]) (pm_partn (pm_var 0) (pm_cdict T.d_MIDDLES (pm_var 1))) (pgm_tup (n := 3) rfl (pgm_cons (pgm_name 2 sc_Statement_read.nd) (pgm_cons (pgm_name 3 sc_Statement_read.nd) (pgm_cons (pgm_name 4 sc_Statement_read.nd) pgm_nil)))))
      (psm_one (psm_if (ptm_cmp (om_ne (hu64 hr)) (pm_var 3) pm_str) (psm_one (psm_ret (pm_make h_Statement___init__ hr (by decide) tk (pam_cons (pm_var 1) (pam_cons (pm_stat h_Term_read hr (by decide) tk (pam_cons (pm_var 2) pam_nil)) (pam_cons (pm_stat h_Term_read hr (by decide) tk (pam_cons (pm_var 4) pam_nil)) pam_nil)))))) psm_nil))))
      (psm_one (psm_raiseX rfl tk T.x_InvalidText hP T.z_super hr T.ra_InvalidText (pam_cons pm_int pam_nil))))))
theorem sc_Statement_relation : FnScope ["self"] ["self"] (defScope s_Statement_relation) := ⟨rfl, rfl, rfl, by decide +kernel, rfl, by decide +kernel, by decide +kernel⟩
theorem ok_Statement_relation (T : Txt w K mg) (hP : REX.PrgOk P "/claim/cut.py") : PrE P w K mg base 1 "Statement" "relation" "Statement.relation" s_Statement_relation ["self"] G_Statement_relation := pr_e T.f_Statement_relation sc_Statement_relation fun f cdv A outer s H E hr tk => by
    exact (psm_one (psm_ret (pm_fld T.fl_Statement_own_relation (pm_var 0))))
theorem sc_Statement_one : FnScope ["self"] ["self"] (defScope s_Statement_one) := ⟨rfl, rfl, rfl, by decide +kernel, rfl, by decide +kernel, by decide +kernel⟩
theorem ok_Statement_one (T : Txt w K mg) (hP : REX.PrgOk P "/claim/cut.py") : PrE P w K mg base 1 "Statement" "one" "Statement.one" s_Statement_one ["self"] G_Statement_one := pr_e T.f_Statement_one sc_Statement_one fun f cdv A outer s H E hr tk => by
    exact (psm_one (psm_ret (pm_fld T.fl_Statement_own_one (pm_var 0))))
theorem sc_Statement_other : FnScope ["self"] ["self"] (defScope s_Statement_other) := ⟨rfl, rfl, rfl, by decide +kernel, rfl, by decide +kernel, by decide +kernel⟩
theorem ok_Statement_other (T : Txt w K mg) (hP : REX.PrgOk P "/claim/cut.py") : PrE P w K mg base 1 "Statement" "other" "Statement.other" s_Statement_other ["self"] G_Statement_other := pr_e T.f_Statement_other sc_Statement_other fun f cdv A outer s H E hr tk => by
    exact (psm_one (psm_ret (pm_fld T.fl_Statement_own_other (pm_var 0))))
theorem sc_Term_of : FnScope ["value"] ["value"] (defScope s_Term_of) := ⟨rfl, rfl, rfl, by decide +kernel, rfl, by decide +kernel, by decide +kernel⟩
theorem ok_Term_of (T : Txt w K mg) (hP : REX.PrgOk P "/claim/cut.py") (h_Term___init__ : MkE P w K mg base 1 "Term" ["node", "deep", "part_count"]) (h_is_name : FnE P w K mg base 1 "is_name" s_is_name ["value"] G_is_name) : StE P w K mg base 3 "Term" "of" "Term.of" s_Term_of ["value"] G_Term_of := st_e T.f_Term_of sc_Term_of fun f cdv A outer s H E hr tk => by
    exact (psm_cons (psm_if (ptm_tru (pm_callB (cm_isi (ktC_ok T.is_Term)) T.z_isinstance (pam_cons (pm_var 0) (pam_cons (pm_glob T.k_Term) pam_nil)))) (psm_one (psm_ret (pm_make h_Term___init__ hr (by decide) tk (pam_cons (pm_fld T.fl_Term_node (pm_var 0)) (pam_cons (pm_fld T.fl_Term_deep (pm_var 0)) (pam_cons (pm_fld T.fl_Term_part_count (pm_var 0)) pam_nil)))))) psm_nil)
      (psm_cons (psm_if (ptm_not (ptm_tru (pm_callE h_is_name hr (by decide) tk (pam_cons (pm_var 0) pam_nil)))) (psm_one (psm_raiseX rfl tk T.x_InvalidTerm hP T.z_super hr T.ra_InvalidTerm (pam_cons (pm_var 0) pam_nil))) psm_nil)
      (psm_one (psm_ret (pm_make h_Term___init__ hr (by decide) tk (pam_cons (pm_tup (pam_cons pm_str (pam_cons (pm_var 0) pam_nil))) (pam_cons pm_int (pam_cons pm_int pam_nil))))))))
theorem sc_joined : FnScope ["word", "values", "terms", "deep", "many", "value", "term"] ["word", "values"] (defScope s_joined) := ⟨rfl, rfl, rfl, by decide +kernel, rfl, by decide +kernel, by decide +kernel⟩
theorem ok_joined (T : Txt w K mg) (hP : REX.PrgOk P "/claim/cut.py") (h_Term___init__ : MkE P w K mg base 1 "Term" ["node", "deep", "part_count"]) (h_need_size : FnE P w K mg base 1 "need_size" s_need_size ["deep", "many"] G_need_size) (h_Term_of : StE P w K mg base 3 "Term" "of" "Term.of" s_Term_of ["value"] G_Term_of) : StarE P w K mg base 4 "joined" 1 G_joined := star_e T.f_joined sc_joined fun f cdv A outer s H E hr tk => by
    exact (psm_cons (psm_setLc (own := [("value", 5)]) 2 rfl sc_joined.nd (pim_any (pm_var 1)) (show blkC ["word", "values", "terms", "deep", "many", "value", "term"] (defScope s_joined) _ [("value", 5)] = true by decide +kernel) ⟨fun _ _ _ _ _ => (pgm_name 5 sc_joined.nd), fun _ _ _ _ _ => ptsm_nil, fun _ _ _ _ _ => (pm_stat h_Term_of hr (by decide) takesE0 (pam_cons (pm_var 5) pam_nil))⟩)
      (psm_cons (psm_par 3 4 rfl sc_joined.nd (pam_cons (pm_bin om_add pm_int (pm_callB (cm_max rfl) T.z_max (pam_cons (pm_lc (own := [("term", 6)]) rfl sc_joined.nd (pim_any (pm_var 2)) (show blkC ["word", "values", "terms", "deep", "many", "value", "term"] (defScope s_joined) _ [("term", 6)] = true by decide +kernel) ⟨fun _ _ _ _ _ => (pgm_name 6 sc_joined.nd), fun _ _ _ _ _ => ptsm_nil, fun _ _ _ _ _ => (pm_fld T.fl_Term_deep (pm_var 6))⟩) pam_nil))) (pam_cons (pm_bin om_add pm_int (pm_callB (cm_sum rfl) T.z_sum (pam_cons (pm_lc (own := [("term", 6)]) rfl sc_joined.nd (pim_any (pm_var 2)) (show blkC ["word", "values", "terms", "deep", "many", "value", "term"] (defScope s_joined) _ [("term", 6)] = true by decide +kernel) ⟨fun _ _ _ _ _ => (pgm_name 6 sc_joined.nd), fun _ _ _ _ _ => ptsm_nil, fun _ _ _ _ _ => (pm_fld T.fl_Term_part_count (pm_var 6))⟩) pam_nil))) pam_nil)))
      (psm_cons (psm_expr (pm_callE h_need_size hr (by decide) tk (pam_cons (pm_var 3) (pam_cons (pm_var 4) pam_nil))))
      (psm_one (psm_ret (pm_make h_Term___init__ hr (by decide) tk (pam_cons (pm_tup (pam_cons (pm_var 0) (pam_star (pm_lc (own := [("term", 6)]) rfl sc_joined.nd (pim_any (pm_var 2)) (show blkC ["word", "values", "terms", "deep", "many", "value", "term"] (defScope s_joined) _ [("term", 6)] = true by decide +kernel) ⟨fun _ _ _ _ _ => (pgm_name 6 sc_joined.nd), fun _ _ _ _ _ => ptsm_nil, fun _ _ _ _ _ => (pm_fld T.fl_Term_node (pm_var 6))⟩) pam_nil))) (pam_cons (pm_var 3) (pam_cons (pm_var 4) pam_nil)))))))))
theorem sc_Term___sub__ : FnScope ["self", "other"] ["self", "other"] (defScope s_Term___sub__) := ⟨rfl, rfl, rfl, by decide +kernel, rfl, by decide +kernel, by decide +kernel⟩
theorem ok_Term___sub__ (T : Txt w K mg) (hP : REX.PrgOk P "/claim/cut.py") (h_joined : StarE P w K mg base 4 "joined" 1 G_joined) : MeE P w K mg base 5 "Term" "__sub__" "Term.__sub__" s_Term___sub__ ["self", "other"] G_Term___sub__ := me_e T.f_Term___sub__ sc_Term___sub__ fun f cdv A outer s H E hr tk => by
    exact (psm_one (psm_ret (pm_callV h_joined hr (by decide) tk (pam_cons pm_str (pam_cons (pm_var 0) (pam_cons (pm_var 1) pam_nil))))))
theorem sc_Term___rsub__ : FnScope ["self", "other"] ["self", "other"] (defScope s_Term___rsub__) := ⟨rfl, rfl, rfl, by decide +kernel, rfl, by decide +kernel, by decide +kernel⟩
theorem ok_Term___rsub__ (T : Txt w K mg) (hP : REX.PrgOk P "/claim/cut.py") (h_joined : StarE P w K mg base 4 "joined" 1 G_joined) : MeE P w K mg base 5 "Term" "__rsub__" "Term.__rsub__" s_Term___rsub__ ["self", "other"] G_Term___rsub__ := me_e T.f_Term___rsub__ sc_Term___rsub__ fun f cdv A outer s H E hr tk => by
    exact (psm_one (psm_ret (pm_callV h_joined hr (by decide) tk (pam_cons pm_str (pam_cons (pm_var 1) (pam_cons (pm_var 0) pam_nil))))))
theorem sc_Term___or__ : FnScope ["self", "other"] ["self", "other"] (defScope s_Term___or__) := ⟨rfl, rfl, rfl, by decide +kernel, rfl, by decide +kernel, by decide +kernel⟩
theorem ok_Term___or__ (T : Txt w K mg) (hP : REX.PrgOk P "/claim/cut.py") (h_joined : StarE P w K mg base 4 "joined" 1 G_joined) : MeE P w K mg base 5 "Term" "__or__" "Term.__or__" s_Term___or__ ["self", "other"] G_Term___or__ := me_e T.f_Term___or__ sc_Term___or__ fun f cdv A outer s H E hr tk => by
    exact (psm_one (psm_ret (pm_callV h_joined hr (by decide) tk (pam_cons pm_str (pam_cons (pm_var 0) (pam_cons (pm_var 1) pam_nil))))))
theorem sc_Term___ror__ : FnScope ["self", "other"] ["self", "other"] (defScope s_Term___ror__) := ⟨rfl, rfl, rfl, by decide +kernel, rfl, by decide +kernel, by decide +kernel⟩
theorem ok_Term___ror__ (T : Txt w K mg) (hP : REX.PrgOk P "/claim/cut.py") (h_joined : StarE P w K mg base 4 "joined" 1 G_joined) : MeE P w K mg base 5 "Term" "__ror__" "Term.__ror__" s_Term___ror__ ["self", "other"] G_Term___ror__ := me_e T.f_Term___ror__ sc_Term___ror__ fun f cdv A outer s H E hr tk => by
    exact (psm_one (psm_ret (pm_callV h_joined hr (by decide) tk (pam_cons pm_str (pam_cons (pm_var 1) (pam_cons (pm_var 0) pam_nil))))))
theorem sc_Term_depth : FnScope ["self"] ["self"] (defScope s_Term_depth) := ⟨rfl, rfl, rfl, by decide +kernel, rfl, by decide +kernel, by decide +kernel⟩
theorem ok_Term_depth (T : Txt w K mg) (hP : REX.PrgOk P "/claim/cut.py") : MeE P w K mg base 1 "Term" "depth" "Term.depth" s_Term_depth ["self"] G_Term_depth := me_e T.f_Term_depth sc_Term_depth fun f cdv A outer s H E hr tk => by
    exact (psm_one (psm_ret (pm_fld T.fl_Term_deep (pm_var 0))))
theorem sc_difference : FnScope ["one", "other"] ["one", "other"] (defScope s_difference) := ⟨rfl, rfl, rfl, by decide +kernel, rfl, by decide +kernel, by decide +kernel⟩
theorem ok_difference (T : Txt w K mg) (hP : REX.PrgOk P "/claim/cut.py") (h_need_size : FnE P w K mg base 1 "need_size" s_need_size ["deep", "many"] G_need_size) (h_Term___sub__ : MeE P w K mg base 5 "Term" "__sub__" "Term.__sub__" s_Term___sub__ ["self", "other"] G_Term___sub__) (h_Term___rsub__ : MeE P w K mg base 5 "Term" "__rsub__" "Term.__rsub__" s_Term___rsub__ ["self", "other"] G_Term___rsub__) (h_Term___or__ : MeE P w K mg base 5 "Term" "__or__" "Term.__or__" s_Term___or__ ["self", "other"] G_Term___or__) (h_Term___ror__ : MeE P w K mg base 5 "Term" "__ror__" "Term.__ror__" s_Term___ror__ ["self", "other"] G_Term___ror__) (h_Term_depth : MeE P w K mg base 1 "Term" "depth" "Term.depth" s_Term_depth ["self"] G_Term_depth) : FnE P w K mg base 6 "difference" s_difference ["one", "other"] G_difference := fn_e T.f_difference sc_difference fun f cdv A outer s H E hr tk => by
    exact (psm_cons (psm_expr (pm_callE h_need_size hr (by decide) tk (pam_cons (pm_bin om_add pm_int (pm_callB (cm_max rfl) T.z_max (pam_cons (pm_lst (pam_cons (pm_meth0 h_Term_depth hr (by decide) tk (pm_var 0)) (pam_cons (pm_meth0 h_Term_depth hr (by decide) tk (pm_var 1)) pam_nil))) pam_nil))) (pam_cons pm_int pam_nil))))
      (psm_one (psm_ret (pm_bin (om_own T.op_or h_Term___or__ h_Term___ror__ hr (by decide) tk rfl rfl om_no) (pm_bin (om_own T.op_sub h_Term___sub__ h_Term___rsub__ hr (by decide) tk rfl rfl om_sub) (pm_var 0) (pm_var 1)) (pm_bin (om_own T.op_sub h_Term___sub__ h_Term___rsub__ hr (by decide) tk rfl rfl om_sub) (pm_var 1) (pm_var 0))))))
theorem sc_Statement_rest : FnScope ["self"] ["self"] (defScope s_Statement_rest) := ⟨rfl, rfl, rfl, by decide +kernel, rfl, by decide +kernel, by decide +kernel⟩
theorem ok_Statement_rest (T : Txt w K mg) (hP : REX.PrgOk P "/claim/cut.py") (h_Term___sub__ : MeE P w K mg base 5 "Term" "__sub__" "Term.__sub__" s_Term___sub__ ["self", "other"] G_Term___sub__) (h_Term___rsub__ : MeE P w K mg base 5 "Term" "__rsub__" "Term.__rsub__" s_Term___rsub__ ["self", "other"] G_Term___rsub__) (h_difference : FnE P w K mg base 6 "difference" s_difference ["one", "other"] G_difference) : MeE P w K mg base 7 "Statement" "rest" "Statement.rest" s_Statement_rest ["self"] G_Statement_rest := me_e T.f_Statement_rest sc_Statement_rest fun f cdv A outer s H E hr tk => by
    exact (psm_cons (psm_if (ptm_cmp (om_eq (hu64 hr)) (pm_fld T.fl_Statement_own_relation (pm_var 0)) pm_str) (psm_one (psm_ret (pm_fld T.fl_Statement_own_one (pm_var 0)))) psm_nil)
      (psm_cons (psm_if (ptm_cmp (om_eq (hu64 hr)) (pm_fld T.fl_Statement_own_relation (pm_var 0)) pm_str) (psm_one (psm_ret (pm_bin (om_own T.op_sub h_Term___sub__ h_Term___rsub__ hr (by decide) tk rfl rfl om_sub) (pm_fld T.fl_Statement_own_one (pm_var 0)) (pm_fld T.fl_Statement_own_other (pm_var 0))))) psm_nil)
      (psm_one (psm_ret (pm_callE h_difference hr (by decide) tk (pam_cons (pm_fld T.fl_Statement_own_one (pm_var 0)) (pam_cons (pm_fld T.fl_Statement_own_other (pm_var 0)) pam_nil)))))))
theorem sc_node_names : FnScope ["node", "found", "inner"] ["node"] (defScope s_node_names) := ⟨rfl, rfl, rfl, by decide +kernel, rfl, by decide +kernel, by decide +kernel⟩
theorem ok_node_names (T : Txt w K mg) (hP : REX.PrgOk P "/claim/cut.py") (h_inner_nodes : FnE P w K mg base 1 "inner_nodes" s_inner_nodes ["node"] G_inner_nodes) : ∀ n : Nat, FnE P w K mg base (1 + n) "node_names" s_node_names ["node"] (G_node_names n)
  | 0 => fnE_bad T.f_node_names
  | n + 1 => fn_e T.f_node_names sc_node_names fun f cdv A outer s H E hr tk => by
    have h_node_names := ok_node_names T hP h_inner_nodes n
    exact (psm_cons (psm_if (ptm_cmp (om_eq (hu64 hr)) (pm_ix (pm_var 0) pm_int) pm_str) (psm_one (psm_ret (pm_disp (ppm_cons (pm_ix (pm_var 0) pm_int) pm_bl ppm_nil)))) psm_nil)
      (psm_cons (psm_set 1 pm_dnewR sc_node_names.nd)
      (psm_cons (psm_for (vs := [2]) (passes_of rfl) rfl (pim_any (pm_callE h_inner_nodes hr (Nat.le_trans (by decide : 1 ≤ 1) (Nat.le_add_right 1 _)) tk (pam_cons (pm_var 0) pam_nil))) (pgm_name 2 sc_node_names.nd) (psm_one (psm_expr (pm_dupd (pm_var 1) (pam_cons (pm_callE h_node_names hr (Nat.le_refl _) tk (pam_cons (pm_var 2) pam_nil)) pam_nil)))))
      (psm_one (psm_ret (pm_var 1))))))
theorem sc_Term_names : FnScope ["self"] ["self"] (defScope s_Term_names) := ⟨rfl, rfl, rfl, by decide +kernel, rfl, by decide +kernel, by decide +kernel⟩
theorem ok_Term_names (T : Txt w K mg) (hP : REX.PrgOk P "/claim/cut.py") (h_node_names : FnE P w K mg base 11 "node_names" s_node_names ["node"] (G_node_names 10)) : MeE P w K mg base 12 "Term" "names" "Term.names" s_Term_names ["self"] G_Term_names := me_e T.f_Term_names sc_Term_names fun f cdv A outer s H E hr tk => by
    exact (psm_one (psm_ret (pm_callB cm_srtSR T.z_sorted (pam_cons (pm_callTy (cm_listD rfl) T.z_list (pam_cons (pm_callE h_node_names hr (by decide) tk (pam_cons (pm_fld T.fl_Term_node (pm_var 0)) pam_nil)) pam_nil)) pam_nil))))
theorem sc_Statement_terms : FnScope ["self"] ["self"] (defScope s_Statement_terms) := ⟨rfl, rfl, rfl, by decide +kernel, rfl, by decide +kernel, by decide +kernel⟩
theorem ok_Statement_terms (T : Txt w K mg) (hP : REX.PrgOk P "/claim/cut.py") : MeE P w K mg base 1 "Statement" "terms" "Statement.terms" s_Statement_terms ["self"] G_Statement_terms := me_e T.f_Statement_terms sc_Statement_terms fun f cdv A outer s H E hr tk => by
    exact (psm_one (psm_ret (pm_ifExp (ptm_cmp om_is (pm_fld T.fl_Statement_own_other (pm_var 0)) pm_non) (pm_lst (pam_cons (pm_fld T.fl_Statement_own_one (pm_var 0)) pam_nil)) (pm_lst (pam_cons (pm_fld T.fl_Statement_own_one (pm_var 0)) (pam_cons (pm_fld T.fl_Statement_own_other (pm_var 0)) pam_nil))))))
theorem sc_Statement_names : FnScope ["self", "found", "term", "name"] ["self"] (defScope s_Statement_names) := ⟨rfl, rfl, rfl, by decide +kernel, rfl, by decide +kernel, by decide +kernel⟩
theorem ok_Statement_names (T : Txt w K mg) (hP : REX.PrgOk P "/claim/cut.py") (h_Term_names : MeE P w K mg base 12 "Term" "names" "Term.names" s_Term_names ["self"] G_Term_names) (h_Statement_terms : MeE P w K mg base 1 "Statement" "terms" "Statement.terms" s_Statement_terms ["self"] G_Statement_terms) : MeE P w K mg base 13 "Statement" "names" "Statement.names" s_Statement_names ["self"] G_Statement_names := me_e T.f_Statement_names sc_Statement_names fun f cdv A outer s H E hr tk => by
    exact (psm_cons (psm_set 1 pm_dnewR sc_Statement_names.nd)
      (psm_cons (psm_for (vs := [2]) (passes_of rfl) rfl (pim_any (pm_meth0 h_Statement_terms hr (by decide) tk (pm_var 0))) (pgm_name 2 sc_Statement_names.nd) (psm_one (psm_expr (pm_dupd (pm_var 1) (pam_cons (pm_dc (own := [("name", 3)]) rfl sc_Statement_names.nd (pim_any (pm_meth0 h_Term_names hr (by decide) tk (pm_var 2))) (show blkC ["self", "found", "term", "name"] (defScope s_Statement_names) _ [("name", 3)] = true by decide +kernel) ⟨fun _ _ _ _ _ => (pgm_name 3 sc_Statement_names.nd), fun _ _ _ _ _ => ptsm_nil, fun _ _ _ _ _ => (pm_var 3), fun _ _ _ _ _ => pm_bl⟩) pam_nil)))))
      (psm_one (psm_ret (pm_callB cm_srtSR T.z_sorted (pam_cons (pm_callTy (cm_listD rfl) T.z_list (pam_cons (pm_var 1) pam_nil)) pam_nil))))))
theorem sc_Term___str__ : FnScope ["self"] ["self"] (defScope s_Term___str__) := ⟨rfl, rfl, rfl, by decide +kernel, rfl, by decide +kernel, by decide +kernel⟩
theorem ok_Term___str__ (T : Txt w K mg) (hP : REX.PrgOk P "/claim/cut.py") (h_Term_text : MeE P w K mg base 25 "Term" "text" "Term.text" s_Term_text ["self"] G_Term_text) : MeE P w K mg base 26 "Term" "__str__" "Term.__str__" s_Term___str__ ["self"] G_Term___str__ := me_e T.f_Term___str__ sc_Term___str__ fun f cdv A outer s H E hr tk => by
    exact (psm_one (psm_ret (pm_joined1 (pm_fmt (pm_meth0 h_Term_text hr (by decide) tk (pm_var 0))))))
theorem sc_Statement_text : FnScope ["self"] ["self"] (defScope s_Statement_text) := ⟨rfl, rfl, rfl, by decide +kernel, rfl, by decide +kernel, by decide +kernel⟩
theorem ok_Statement_text (T : Txt w K mg) (hP : REX.PrgOk P "/claim/cut.py") (h_Term___str__ : MeE P w K mg base 26 "Term" "__str__" "Term.__str__" s_Term___str__ ["self"] G_Term___str__) : MeE P w K mg base 29 "Statement" "text" "Statement.text" s_Statement_text ["self"] G_Statement_text := me_e T.f_Statement_text sc_Statement_text fun f cdv A outer s H E hr tk => by
    exact (psm_cons (psm_if (ptm_cmp (om_eq (hu64 hr)) (pm_fld T.fl_Statement_own_relation (pm_var 0)) pm_str) (psm_one (psm_ret (pm_joined (.cons (pm_fmtO T.fm_Term h_Term___str__ hr (by decide) tk (pm_fld T.fl_Statement_own_one (pm_var 0))) (.cons (pm_fmt (pm_glob T.c_EMPTY)) .nil))))) psm_nil)
      (psm_one (psm_ret (pm_joined (.cons (pm_fmtO T.fm_Term h_Term___str__ hr (by decide) tk (pm_fld T.fl_Statement_own_one (pm_var 0))) (.cons (pm_fmt (pm_cdict T.d_MIDDLES (pm_fld T.fl_Statement_own_relation (pm_var 0)))) (.cons (pm_fmtO T.fm_Term h_Term___str__ hr (by decide) tk (pm_fld T.fl_Statement_own_other (pm_var 0))) .nil)))))))
theorem sc_Statement___str__ : FnScope ["self"] ["self"] (defScope s_Statement___str__) := ⟨rfl, rfl, rfl, by decide +kernel, rfl, by decide +kernel, by decide +kernel⟩
theorem ok_Statement___str__ (T : Txt w K mg) (hP : REX.PrgOk P "/claim/cut.py") (h_Statement_text : MeE P w K mg base 29 "Statement" "text" "Statement.text" s_Statement_text ["self"] G_Statement_text) : MeE P w K mg base 30 "Statement" "__str__" "Statement.__str__" s_Statement___str__ ["self"] G_Statement___str__ := me_e T.f_Statement___str__ sc_Statement___str__ fun f cdv A outer s H E hr tk => by
    exact (psm_one (psm_ret (pm_joined1 (pm_fmt (pm_meth0 h_Statement_text hr (by decide) tk (pm_var 0))))))
theorem sc_Statement___eq__ : FnScope ["self", "other"] ["self", "other"] (defScope s_Statement___eq__) := ⟨rfl, rfl, rfl, by decide +kernel, rfl, by decide +kernel, by decide +kernel⟩
theorem ok_Statement___eq__ (T : Txt w K mg) (hP : REX.PrgOk P "/claim/cut.py") (h_Statement_text : MeE P w K mg base 29 "Statement" "text" "Statement.text" s_Statement_text ["self"] G_Statement_text) : MeE P w K mg base 30 "Statement" "__eq__" "Statement.__eq__" s_Statement___eq__ ["self", "other"] G_Statement___eq__ := me_e T.f_Statement___eq__ sc_Statement___eq__ fun f cdv A outer s H E hr tk => by
    exact (psm_one (psm_ret (pm_and (pm_callB (cm_isi (ktC_ok T.is_Statement)) T.z_isinstance (pam_cons (pm_var 1) (pam_cons (pm_glob T.k_Statement) pam_nil))) (pm_one (pm_cmp (om_eq (hu64 hr)) (pm_meth0 h_Statement_text hr (by decide) tk (pm_var 0)) (pm_meth0 h_Statement_text hr (by decide) tk (pm_var 1)))))))
theorem sc_Statement___repr__ : FnScope ["self"] ["self"] (defScope s_Statement___repr__) := ⟨rfl, rfl, rfl, by decide +kernel, rfl, by decide +kernel, by decide +kernel⟩
theorem ok_Statement___repr__ (T : Txt w K mg) (hP : REX.PrgOk P "/claim/cut.py") (h_Statement_text : MeE P w K mg base 29 "Statement" "text" "Statement.text" s_Statement_text ["self"] G_Statement_text) : MeE P w K mg base 30 "Statement" "__repr__" "Statement.__repr__" s_Statement___repr__ ["self"] G_Statement___repr__ := me_e T.f_Statement___repr__ sc_Statement___repr__ fun f cdv A outer s H E hr tk => by
    exact (psm_one (psm_ret (pm_joined (.cons pm_str (.cons (pm_fmt (pm_meth0 h_Statement_text hr (by decide) tk (pm_var 0))) (.cons pm_str .nil))))))
theorem sc__law_cells : FnScope ["_law_script", "_law_seed", "_law_cell"] ["_law_script"] (defScope s__law_cells) := ⟨rfl, rfl, rfl, by decide +kernel, rfl, by decide +kernel, by decide +kernel⟩
theorem ok__law_cells (T : Txt w K mg) (hP : REX.PrgOk P "/claim/cut.py") : FnE P w K mg base 1 "_law_cells" s__law_cells ["_law_script"] G__law_cells := fn_e T.f__law_cells sc__law_cells fun f cdv A outer s H E hr tk => by
    exact (psm_cons (psm_set 1 pm_int sc__law_cells.nd)
      (psm_cons (psm_for (vs := [2]) (passes_of rfl) rfl (pim_any (pm_slice (pm_var 0) pom_none (pom_some pm_int))) (pgm_name 2 sc__law_cells.nd) (psm_one (psm_set 1 (pm_bin om_mod (pm_callTy cm_int T.z_int (pam_cons (pm_bin om_add (pm_bin om_add (pm_bin om_mul (pm_var 1) pm_int) (pm_bin om_mod (pm_callTy cm_int T.z_int (pam_cons (pm_var 2) pam_nil)) pm_int)) pm_int) pam_nil)) pm_int) sc__law_cells.nd)))
      (psm_one (psm_ret (pm_lstR (pam_cons (pm_callTy cm_list T.z_list (pam_cons (pm_slice (pm_var 0) pom_none (pom_some pm_int)) pam_nil)) (pam_cons pm_int (pam_cons pm_int (pam_cons (pm_var 1) (pam_cons pm_int pam_nil))))))))))
theorem sc__law_draw : FnScope ["_law_bag", "_law_sides", "_law_seed", "_law_cell", "_law_digit"] ["_law_bag", "_law_sides"] (defScope s__law_draw) := ⟨rfl, rfl, rfl, by decide +kernel, rfl, by decide +kernel, by decide +kernel⟩
theorem ok__law_draw (T : Txt w K mg) (hP : REX.PrgOk P "/claim/cut.py") : FnE P w K mg base 1 "_law_draw" s__law_draw ["_law_bag", "_law_sides"] G__law_draw := fn_e T.f__law_draw sc__law_draw fun f cdv A outer s H E hr tk => by
    exact (psm_cons (psm_asg (vs := []) (pm_bin om_add (pm_ix (pm_var 0) pm_int) pm_int) (pgm_sub (pm_var 0) pm_int))
      (psm_cons (psm_if (PWM.pt (pwm_and (ptm_cmp (om_eq (hu64 hr)) (pm_ix (pm_var 0) pm_int) pm_int) (pwm_and1 (ptm_cmp om_lt (pm_ix (pm_var 0) pm_int) (pm_callB cm_len T.z_len (pam_cons (pm_ix (pm_var 0) pm_int) pam_nil)))))) (psm_cons (psm_set 3 (pm_ix (pm_ix (pm_var 0) pm_int) (pm_ix (pm_var 0) pm_int)) sc__law_draw.nd)
      (psm_cons (psm_asg (vs := []) (pm_bin om_add (pm_ix (pm_var 0) pm_int) pm_int) (pgm_sub (pm_var 0) pm_int))
      (psm_one (psm_if (ptm_cmp om_ge (pm_var 3) (pm_bin om_pow pm_int pm_int)) (psm_one (psm_asg (vs := []) (pm_var 3) (pgm_sub (pm_var 0) pm_int))) (psm_one (psm_asg (vs := []) (pm_bin om_mod (pm_callTy cm_int T.z_int (pam_cons (pm_bin om_add (pm_bin om_add (pm_bin om_mul (pm_ix (pm_var 0) pm_int) pm_int) (pm_bin om_mul (pm_bin om_mod (pm_callTy cm_int T.z_int (pam_cons (pm_var 3) pam_nil)) pm_int) pm_int)) pm_int) pam_nil)) pm_int) (pgm_sub (pm_var 0) pm_int))))))) psm_nil)
      (psm_cons (psm_if (ptm_cmp om_gt (pm_ix (pm_var 0) pm_int) pm_int) (psm_cons (psm_set 4 (pm_bin om_mod (pm_callTy cm_int T.z_int (pam_cons (pm_ix (pm_var 0) pm_int) pam_nil)) (pm_var 1)) sc__law_draw.nd)
      (psm_cons (psm_asg (vs := []) (pm_bin om_div (pm_ix (pm_var 0) pm_int) (pm_var 1)) (pgm_sub (pm_var 0) pm_int))
      (psm_one (psm_ret (pm_var 4))))) psm_nil)
      (psm_cons (psm_set 2 (pm_ix (pm_var 0) pm_int) sc__law_draw.nd)
      (psm_cons (psm_asg (vs := []) (pm_bin om_mod (pm_callTy cm_int T.z_int (pam_cons (pm_bin om_add (pm_bin om_add (pm_bin om_add (pm_bin om_mul (pm_bin om_mul (pm_var 2) (pm_var 2)) pm_int) (pm_bin om_mul (pm_var 2) pm_int)) (pm_bin om_mul (pm_ix (pm_var 0) pm_int) pm_int)) pm_int) pam_nil)) pm_int) (pgm_sub (pm_var 0) pm_int))
      (psm_one (psm_ret (pm_bin om_mod (pm_callTy cm_int T.z_int (pam_cons (pm_bin om_add (pm_bin om_div (pm_ix (pm_var 0) pm_int) pm_int) (pm_bin om_mul (pm_bin om_mod (pm_callTy cm_int T.z_int (pam_cons (pm_ix (pm_var 0) pm_int) pam_nil)) pm_int) pm_int)) pam_nil)) (pm_var 1)))))))))
theorem sc__law_one : FnScope ["_law_bag", "_law_things"] ["_law_bag", "_law_things"] (defScope s__law_one) := ⟨rfl, rfl, rfl, by decide +kernel, rfl, by decide +kernel, by decide +kernel⟩
theorem ok__law_one (T : Txt w K mg) (hP : REX.PrgOk P "/claim/cut.py") (h__law_draw : FnE P w K mg base 1 "_law_draw" s__law_draw ["_law_bag", "_law_sides"] G__law_draw) : FnE P w K mg base 2 "_law_one" s__law_one ["_law_bag", "_law_things"] G__law_one := fn_e T.f__law_one sc__law_one fun f cdv A outer s H E hr tk => by
    exact (psm_one (psm_ret (pm_ix (pm_var 1) (pm_callE h__law_draw hr (by decide) tk (pam_cons (pm_var 0) (pam_cons (pm_callB cm_len T.z_len (pam_cons (pm_var 1) pam_nil)) pam_nil))))))
theorem sc__law_same : FnScope ["_law_found", "_law_due", "_law_a", "_law_b"] ["_law_found", "_law_due"] (defScope s__law_same) := ⟨rfl, rfl, rfl, by decide +kernel, rfl, by decide +kernel, by decide +kernel⟩
theorem ok__law_same (T : Txt w K mg) (hP : REX.PrgOk P "/claim/cut.py") : ∀ n : Nat, FnE P w K mg base (0 + n) "_law_same" s__law_same ["_law_found", "_law_due"] (G__law_same n)
  | 0 => fnE_bad T.f__law_same
  | n + 1 => fn_e T.f__law_same sc__law_same fun f cdv A outer s H E hr tk => by
    have h__law_same := ok__law_same T hP n
    exact (psm_cons (psm_if (ptm_tru (pm_callB (cm_isi ktB_ok) T.z_isinstance (pam_cons (pm_var 1) (pam_cons (pm_tup (pam_cons (pm_ty (n := "list") T.z_list) (pam_cons (pm_ty (n := "tuple") T.z_tuple) pam_nil))) pam_nil)))) (psm_cons (psm_if (PWM.pt (pwm_or (ptm_cmp (om_ne (hu64 hr)) (pm_callB (cm_isi ktB_ok) T.z_isinstance (pam_cons (pm_var 0) (pam_cons (pm_ty (n := "list") T.z_list) pam_nil))) (pm_callB (cm_isi ktB_ok) T.z_isinstance (pam_cons (pm_var 1) (pam_cons (pm_ty (n := "list") T.z_list) pam_nil)))) (pwm_or1 (ptm_cmp (om_ne (hu64 hr)) (pm_callB (cm_isi ktB_ok) T.z_isinstance (pam_cons (pm_var 0) (pam_cons (pm_ty (n := "tuple") T.z_tuple) pam_nil))) (pm_callB (cm_isi ktB_ok) T.z_isinstance (pam_cons (pm_var 1) (pam_cons (pm_ty (n := "tuple") T.z_tuple) pam_nil))))))) (psm_one (psm_ret pm_bl)) psm_nil)
      (psm_one (psm_ret (pm_and (pm_cmp (om_eq (hu64 hr)) (pm_callB cm_len T.z_len (pam_cons (pm_var 0) pam_nil)) (pm_callB cm_len T.z_len (pam_cons (pm_var 1) pam_nil))) (pm_one (pm_callB (cm_all rfl) T.z_all (pam_cons (pm_lc (own := [("_law_a", 2), ("_law_b", 3)]) rfl sc__law_same.nd (pim_zip T.z_zip (pam_cons (pm_var 0) (pam_cons (pm_var 1) pam_nil))) (show blkC ["_law_found", "_law_due", "_law_a", "_law_b"] (defScope s__law_same) _ [("_law_a", 2), ("_law_b", 3)] = true by decide +kernel) ⟨fun _ _ _ _ _ => (pgm_tup (n := 2) rfl (pgm_cons (pgm_name 2 sc__law_same.nd) (pgm_cons (pgm_name 3 sc__law_same.nd) pgm_nil))), fun _ _ _ _ _ => ptsm_nil, fun _ _ _ _ _ => (pm_callE h__law_same hr (Nat.le_refl _) takesE0 (pam_cons (pm_var 2) (pam_cons (pm_var 3) pam_nil)))⟩) pam_nil))))))) psm_nil)
      (psm_cons (psm_if (PWM.pt (pwm_or (ptm_cmp om_is (pm_var 1) pm_non) (pwm_or1 (ptm_cmp om_is (pm_var 0) pm_non)))) (psm_one (psm_ret (pm_and (pm_cmp om_is (pm_var 1) pm_non) (pm_one (pm_cmp om_is (pm_var 0) pm_non))))) psm_nil)
      (psm_cons (psm_if (PWM.pt (pwm_or (ptm_cmp (om_ne (hu64 hr)) (pm_callB (cm_isi ktB_ok) T.z_isinstance (pam_cons (pm_var 1) (pam_cons (pm_ty (n := "bool") T.z_bool) pam_nil))) (pm_callB (cm_isi ktB_ok) T.z_isinstance (pam_cons (pm_var 0) (pam_cons (pm_ty (n := "bool") T.z_bool) pam_nil)))) (pwm_or1 (ptm_cmp (om_ne (hu64 hr)) (pm_callB (cm_isi ktB_ok) T.z_isinstance (pam_cons (pm_var 1) (pam_cons (pm_ty (n := "int") T.z_int) pam_nil))) (pm_callB (cm_isi ktB_ok) T.z_isinstance (pam_cons (pm_var 0) (pam_cons (pm_ty (n := "int") T.z_int) pam_nil))))))) (psm_one (psm_ret pm_bl)) psm_nil)
      (psm_one (psm_ret (pm_and (pm_cmp (om_eq (hu64 hr)) (pm_callB (cm_isi ktB_ok) T.z_isinstance (pam_cons (pm_var 1) (pam_cons (pm_ty (n := "str") T.z_str) pam_nil))) (pm_callB (cm_isi ktB_ok) T.z_isinstance (pam_cons (pm_var 0) (pam_cons (pm_ty (n := "str") T.z_str) pam_nil)))) (pm_one (pm_cmp (om_eq (hu64 hr)) (pm_var 0) (pm_var 1)))))))))
theorem sc__law_extra : FnScope ["_law_e"] ["_law_e"] (defScope s__law_extra) := ⟨rfl, rfl, rfl, by decide +kernel, rfl, by decide +kernel, by decide +kernel⟩
theorem ok__law_extra (T : Txt w K mg) (hP : REX.PrgOk P "/claim/cut.py") : FnCE P w K mg base 1 "_law_extra" s__law_extra ["_law_e"] G__law_extra := fn_cE T.f__law_extra sc__law_extra fun f cdv A outer s H p hr => by
    exact (psm_cons (psm_if (ptm_cmp (om_eq (hu64H hr)) (pm_xfld T.xf_code (pm_var 0)) pm_str) (psm_one (psm_ret (pm_xfld T.xf_path (pm_var 0)))) psm_nil)
      (psm_cons (psm_if (ptm_cmp (om_in (hu65H hr)) (pm_xfld T.xf_code (pm_var 0)) (pm_tup (pam_cons pm_str (pam_cons pm_str pam_nil)))) (psm_one (psm_ret (pm_xfld T.xf_line (pm_var 0)))) psm_nil)
      (psm_cons (psm_if (ptm_cmp (om_eq (hu64H hr)) (pm_xfld T.xf_code (pm_var 0)) pm_str) (psm_one (psm_ret (pm_xfld T.xf_word (pm_var 0)))) psm_nil)
      (psm_cons (psm_if (ptm_cmp (om_in (hu65H hr)) (pm_xfld T.xf_code (pm_var 0)) (pm_tup (pam_cons pm_str (pam_cons pm_str pam_nil)))) (psm_one (psm_ret (pm_xfld T.xf_limit (pm_var 0)))) psm_nil)
      (psm_cons (psm_if (ptm_cmp (om_eq (hu64H hr)) (pm_xfld T.xf_code (pm_var 0)) pm_str) (psm_one (psm_ret (pm_xfld T.xf_user (pm_var 0)))) psm_nil)
      (psm_cons (psm_if (ptm_cmp (om_eq (hu64H hr)) (pm_xfld T.xf_code (pm_var 0)) pm_str) (psm_one (psm_ret (pm_tup (pam_cons (pm_xfld T.xf_fact_name (pm_var 0)) (pam_cons (pm_xfld T.xf_sheet_name (pm_var 0)) pam_nil))))) psm_nil)
      (psm_one (psm_ret (pm_ifExp (ptm_cmp (om_in (hu65H hr)) (pm_xfld T.xf_code (pm_var 0)) (pm_tup (pam_cons pm_str (pam_cons pm_str (pam_cons pm_str pam_nil))))) pm_non (pm_xfld T.xf_value (pm_var 0)))))))))))
theorem sc_Statement_empty : FnScope ["term"] ["term"] (defScope s_Statement_empty) := ⟨rfl, rfl, rfl, by decide +kernel, rfl, by decide +kernel, by decide +kernel⟩
theorem ok_Statement_empty (T : Txt w K mg) (hP : REX.PrgOk P "/claim/cut.py") (h_Statement___init__ : MkE P w K mg base 1 "Statement" ["own_relation", "own_one", "own_other"]) (h_Term_of : StE P w K mg base 3 "Term" "of" "Term.of" s_Term_of ["value"] G_Term_of) : StE P w K mg base 4 "Statement" "empty" "Statement.empty" s_Statement_empty ["term"] G_Statement_empty := st_e T.f_Statement_empty sc_Statement_empty fun f cdv A outer s H E hr tk => by
    exact (psm_one (psm_ret (pm_make h_Statement___init__ hr (by decide) tk (pam_cons pm_str (pam_cons (pm_stat h_Term_of hr (by decide) tk (pam_cons (pm_var 0) pam_nil)) (pam_cons pm_non pam_nil))))))
theorem ok_lam0 (T : Txt w K mg) (hP : REX.PrgOk P "/claim/cut.py") (h_Statement_empty : StE P w K mg base 4 "Statement" "empty" "Statement.empty" s_Statement_empty ["term"] G_Statement_empty) : CloOk P w K mg base 5 L_0 G_lam0 := clo_okN (pn := []) (N := ["_law_bad"]) (by rfl) (by decide +kernel) (lamB0 rfl fun _ _ _ _ _ => rfl) fun A outer s H E f c' clo hr tk => by
    exact (pm_stat h_Statement_empty hr (by decide) tk (pam_cons (pm_var 0) pam_nil))
theorem sc_Statement_within : FnScope ["one", "other"] ["one", "other"] (defScope s_Statement_within) := ⟨rfl, rfl, rfl, by decide +kernel, rfl, by decide +kernel, by decide +kernel⟩
theorem ok_Statement_within (T : Txt w K mg) (hP : REX.PrgOk P "/claim/cut.py") (h_Statement___init__ : MkE P w K mg base 1 "Statement" ["own_relation", "own_one", "own_other"]) (h_Term_of : StE P w K mg base 3 "Term" "of" "Term.of" s_Term_of ["value"] G_Term_of) : StE P w K mg base 4 "Statement" "within" "Statement.within" s_Statement_within ["one", "other"] G_Statement_within := st_e T.f_Statement_within sc_Statement_within fun f cdv A outer s H E hr tk => by
    exact (psm_one (psm_ret (pm_make h_Statement___init__ hr (by decide) tk (pam_cons pm_str (pam_cons (pm_stat h_Term_of hr (by decide) tk (pam_cons (pm_var 0) pam_nil)) (pam_cons (pm_stat h_Term_of hr (by decide) tk (pam_cons (pm_var 1) pam_nil)) pam_nil))))))
theorem ok_lam1 (T : Txt w K mg) (hP : REX.PrgOk P "/claim/cut.py") (h_Statement_within : StE P w K mg base 4 "Statement" "within" "Statement.within" s_Statement_within ["one", "other"] G_Statement_within) : CloOk P w K mg base 5 L_1 G_lam1 := clo_okN (pn := ["_law_a"]) (N := ["_law_bad", "_law_a"]) (by rfl) (by decide +kernel) (lamB1 rfl fun _ _ _ _ _ _ => ⟨_, rfl, fun _ => rfl⟩) fun A outer s H E f c' clo hr tk => by
    exact (pm_stat h_Statement_within hr (by decide) tk (pam_cons (pm_var 0) (pam_cons pm_non pam_nil)))
theorem ok_lam2 (T : Txt w K mg) (hP : REX.PrgOk P "/claim/cut.py") (h_Statement_within : StE P w K mg base 4 "Statement" "within" "Statement.within" s_Statement_within ["one", "other"] G_Statement_within) : CloOk P w K mg base 5 L_2 G_lam2 := clo_okN (pn := ["_law_b"]) (N := ["_law_bad", "_law_names", "_law_b"]) (by rfl) (by decide +kernel) (lamB1 rfl fun _ _ _ _ _ _ => ⟨_, rfl, fun _ => rfl⟩) fun A outer s H E f c' clo hr tk => by
    exact (pm_stat h_Statement_within hr (by decide) tk (pam_cons (pm_ix (pm_var 1) pm_int) (pam_cons (pm_var 0) pam_nil)))
theorem sc_Statement_equal : FnScope ["one", "other"] ["one", "other"] (defScope s_Statement_equal) := ⟨rfl, rfl, rfl, by decide +kernel, rfl, by decide +kernel, by decide +kernel⟩
theorem ok_Statement_equal (T : Txt w K mg) (hP : REX.PrgOk P "/claim/cut.py") (h_Statement___init__ : MkE P w K mg base 1 "Statement" ["own_relation", "own_one", "own_other"]) (h_Term_of : StE P w K mg base 3 "Term" "of" "Term.of" s_Term_of ["value"] G_Term_of) : StE P w K mg base 4 "Statement" "equal" "Statement.equal" s_Statement_equal ["one", "other"] G_Statement_equal := st_e T.f_Statement_equal sc_Statement_equal fun f cdv A outer s H E hr tk => by
    exact (psm_one (psm_ret (pm_make h_Statement___init__ hr (by decide) tk (pam_cons pm_str (pam_cons (pm_stat h_Term_of hr (by decide) tk (pam_cons (pm_var 0) pam_nil)) (pam_cons (pm_stat h_Term_of hr (by decide) tk (pam_cons (pm_var 1) pam_nil)) pam_nil))))))
theorem ok_lam3 (T : Txt w K mg) (hP : REX.PrgOk P "/claim/cut.py") (h_Statement_equal : StE P w K mg base 4 "Statement" "equal" "Statement.equal" s_Statement_equal ["one", "other"] G_Statement_equal) : CloOk P w K mg base 5 L_3 G_lam3 := clo_okN (pn := ["_law_c"]) (N := ["_law_bad", "_law_c"]) (by rfl) (by decide +kernel) (lamB1 rfl fun _ _ _ _ _ _ => ⟨_, rfl, fun _ => rfl⟩) fun A outer s H E f c' clo hr tk => by
    exact (pm_statK0 [0, 1] ["one", "other"] h_Statement_equal hr (by decide) tk (pkm_cons (pm_var 0) (pkm_cons (pm_var 0) pkm_nil)) (fun _ _ _ _ _ _ us ws hu hw => match us, ws, hu, hw with | [], [_, _], _, _ => rfl))
theorem ok_lam4 (T : Txt w K mg) (hP : REX.PrgOk P "/claim/cut.py") (h_Statement_equal : StE P w K mg base 4 "Statement" "equal" "Statement.equal" s_Statement_equal ["one", "other"] G_Statement_equal) : CloOk P w K mg base 5 L_4 G_lam4 := clo_okN (pn := ["_law_d"]) (N := ["_law_bad", "_law_names", "_law_d"]) (by rfl) (by decide +kernel) (lamB1 rfl fun _ _ _ _ _ _ => ⟨_, rfl, fun _ => rfl⟩) fun A outer s H E f c' clo hr tk => by
    exact (pm_stat h_Statement_equal hr (by decide) tk (pam_cons (pm_ix (pm_var 1) pm_int) (pam_cons (pm_var 0) pam_nil)))
theorem ok_lam5 (T : Txt w K mg) (hP : REX.PrgOk P "/claim/cut.py") (h_Statement_text : MeE P w K mg base 29 "Statement" "text" "Statement.text" s_Statement_text ["self"] G_Statement_text) (h_Statement_empty : StE P w K mg base 4 "Statement" "empty" "Statement.empty" s_Statement_empty ["term"] G_Statement_empty) : CloOk P w K mg base 30 L_5 G_lam5 := clo_okN (pn := ["_law_f"]) (N := ["_law_names", "_law_f"]) (by rfl) (by decide +kernel) (lamB1 rfl fun _ _ _ _ _ _ => ⟨_, rfl, fun _ => rfl⟩) fun A outer s H E f c' clo hr tk => by
    exact (pm_meth0 h_Statement_text hr (by decide) tk (pm_statK0 [0] ["term"] h_Statement_empty hr (by decide) tk (pkm_cons (pm_ix (pm_var 0) pm_int) pkm_nil) (fun _ _ _ _ _ _ us ws hu hw => match us, ws, hu, hw with | [], [_], _, _ => rfl)))
theorem ok_clos (h_lam0 : CloOk P w K mg base 5 L_0 G_lam0) (h_lam1 : CloOk P w K mg base 5 L_1 G_lam1) (h_lam2 : CloOk P w K mg base 5 L_2 G_lam2) (h_lam3 : CloOk P w K mg base 5 L_3 G_lam3) (h_lam4 : CloOk P w K mg base 5 L_4 G_lam4) (h_lam5 : CloOk P w K mg base 30 L_5 G_lam5) : Clos P w K mg base 30 F_clo := fun j => match j with
  | 0 => h_lam0.mono (by decide)
  | 1 => h_lam1.mono (by decide)
  | 2 => h_lam2.mono (by decide)
  | 3 => h_lam3.mono (by decide)
  | 4 => h_lam4.mono (by decide)
  | 5 => h_lam5.mono (by decide)
  | _ + 6 => clo_bad
theorem sc__law_why : FnScope ["_law_ask", "_law_e"] ["_law_ask"] (defScope s__law_why) := ⟨rfl, rfl, rfl, by decide +kernel, rfl, by decide +kernel, by decide +kernel⟩
theorem ok__law_why (T : Txt w K mg) (hP : REX.PrgOk P "/claim/cut.py") (h__law_extra : FnCE P w K mg base 1 "_law_extra" s__law_extra ["_law_e"] G__law_extra) (h_clos : Clos P w K mg base 30 F_clo) : FnE P w K mg base 31 "_law_why" s__law_why ["_law_ask"] G__law_why := fn_e T.f__law_why sc__law_why fun f cdv A outer s H E hr tk => by
    exact (psm_one (by obtain ⟨C1, C2, C3, m1, m2, m3, hkx⟩ := T.kx; exact psm_tryT 1 rfl rfl rfl sc__law_why.nd tk m1 m2 m3 hkx (fun E' pn xe hce tk => (psm_one (psm_ret (pm_tup (pam_cons pm_str (pam_cons (pm_actE h_clos hr (by decide) tk (pm_var 0)) pam_nil)))))) (fun a pn => (psm_one (psm_ret (pm_tup (pam_cons (pm_xfld T.xf_code (pm_var 1)) (pam_cons (pm_callX h__law_extra (room_suite hr a pn) (by decide) (pam_cons (pm_var 1) pam_nil)) pam_nil))))))))
theorem sc__law_whys : FnScope ["_law_asks", "_law_ask"] ["_law_asks"] (defScope s__law_whys) := ⟨rfl, rfl, rfl, by decide +kernel, rfl, by decide +kernel, by decide +kernel⟩
theorem ok__law_whys (T : Txt w K mg) (hP : REX.PrgOk P "/claim/cut.py") (h__law_why : FnE P w K mg base 31 "_law_why" s__law_why ["_law_ask"] G__law_why) : FnE P w K mg base 32 "_law_whys" s__law_whys ["_law_asks"] G__law_whys := fn_e T.f__law_whys sc__law_whys fun f cdv A outer s H E hr tk => by
    exact (psm_one (psm_ret (pm_lc (own := [("_law_ask", 1)]) rfl sc__law_whys.nd (pim_any (pm_var 0)) (show blkC ["_law_asks", "_law_ask"] (defScope s__law_whys) _ [("_law_ask", 1)] = true by decide +kernel) ⟨fun _ _ _ _ _ => (pgm_name 1 sc__law_whys.nd), fun _ _ _ _ _ => ptsm_nil, fun _ _ _ _ _ => (pm_callE h__law_why hr (by decide) takesE0 (pam_cons (pm_var 1) pam_nil))⟩)))
theorem sc__law_words : FnScope ["_law_bag", "_law_many", "_law_letters", "_law_stem", "_law_at", "_law_first", "_law_k"] ["_law_bag", "_law_many"] (defScope s__law_words) := ⟨rfl, rfl, rfl, by decide +kernel, rfl, by decide +kernel, by decide +kernel⟩
theorem ok__law_words (T : Txt w K mg) (hP : REX.PrgOk P "/claim/cut.py") (h__law_draw : FnE P w K mg base 1 "_law_draw" s__law_draw ["_law_bag", "_law_sides"] G__law_draw) (h__law_one : FnE P w K mg base 2 "_law_one" s__law_one ["_law_bag", "_law_things"] G__law_one) : FnE P w K mg base 3 "_law_words" s__law_words ["_law_bag", "_law_many"] G__law_words := fn_e T.f__law_words sc__law_words fun f cdv A outer s H E hr tk => by
    exact (psm_cons (psm_set 2 pm_str sc__law_words.nd)
      (psm_cons (psm_set 3 (pm_join pm_str (pm_lc (own := [("_law_k", 6)]) rfl sc__law_words.nd (pim_range1 T.z_range (pam_cons (pm_callE h__law_draw hr (by decide) tk (pam_cons (pm_var 0) (pam_cons pm_int pam_nil))) pam_nil)) (show blkC ["_law_bag", "_law_many", "_law_letters", "_law_stem", "_law_at", "_law_first", "_law_k"] (defScope s__law_words) _ [("_law_k", 6)] = true by decide +kernel) ⟨fun _ _ _ _ _ => (pgm_name 6 sc__law_words.nd), fun _ _ _ _ _ => ptsm_nil, fun _ _ _ _ _ => (pm_callE h__law_one hr (by decide) takesE0 (pam_cons (pm_var 0) (pam_cons (pm_var 2) pam_nil)))⟩)) sc__law_words.nd)
      (psm_cons (psm_asg (vs := [4, 5]) (pm_tup (pam_cons (pm_callE h__law_draw hr (by decide) tk (pam_cons (pm_var 0) (pam_cons (pm_bin om_add (pm_callB cm_len T.z_len (pam_cons (pm_var 3) pam_nil)) pm_int) pam_nil))) (pam_cons (pm_callE h__law_draw hr (by decide) tk (pam_cons (pm_var 0) (pam_cons pm_int pam_nil))) pam_nil))) (pgm_tup (n := 2) rfl (pgm_cons (pgm_name 4 sc__law_words.nd) (pgm_cons (pgm_name 5 sc__law_words.nd) pgm_nil))))
      (psm_one (psm_ret (pm_lc (own := [("_law_k", 6)]) rfl sc__law_words.nd (pim_range1 T.z_range (pam_cons (pm_var 1) pam_nil)) (show blkC ["_law_bag", "_law_many", "_law_letters", "_law_stem", "_law_at", "_law_first", "_law_k"] (defScope s__law_words) _ [("_law_k", 6)] = true by decide +kernel) ⟨fun _ _ _ _ _ => (pgm_name 6 sc__law_words.nd), fun _ _ _ _ _ => ptsm_nil, fun _ _ _ _ _ => (pm_bin om_add (pm_bin om_add (pm_slice (pm_var 3) pom_none (pom_some (pm_var 4))) (pm_ix (pm_var 2) (pm_bin om_mod (pm_callTy cm_int T.z_int (pam_cons (pm_bin om_add (pm_var 5) (pm_bin om_mul pm_int (pm_var 6))) pam_nil)) pm_int))) (pm_slice (pm_var 3) (pom_some (pm_var 4)) pom_none))⟩))))))
theorem sc__law_text : FnScope ["_law_form_here"] ["_law_form_here"] (defScope s__law_text) := ⟨rfl, rfl, rfl, by decide +kernel, rfl, by decide +kernel, by decide +kernel⟩
theorem ok__law_text (T : Txt w K mg) (hP : REX.PrgOk P "/claim/cut.py") : ∀ n : Nat, FnE P w K mg base (0 + n) "_law_text" s__law_text ["_law_form_here"] (G__law_text n)
  | 0 => fnE_bad T.f__law_text
  | n + 1 => fn_e T.f__law_text sc__law_text fun f cdv A outer s H E hr tk => by
    have h__law_text := ok__law_text T hP n
    exact (psm_cons (psm_if (ptm_cmp (om_in (hu65 hr)) (pm_ix (pm_var 0) pm_int) (pm_tup (pam_cons pm_str (pam_cons pm_str pam_nil)))) (psm_one (psm_ret (pm_ix (pm_var 0) pm_int))) psm_nil)
      (psm_cons (psm_if (ptm_cmp (om_eq (hu64 hr)) (pm_ix (pm_var 0) pm_int) pm_str) (psm_one (psm_ret (pm_ix (pm_var 0) pm_int))) psm_nil)
      (psm_cons (psm_if (ptm_cmp (om_eq (hu64 hr)) (pm_ix (pm_var 0) pm_int) pm_str) (psm_one (psm_ret (pm_bin om_add pm_str (pm_callE h__law_text hr (Nat.le_refl _) tk (pam_cons (pm_ix (pm_var 0) pm_int) pam_nil))))) psm_nil)
      (psm_cons (psm_if (ptm_cmp (om_in (hu65 hr)) (pm_ix (pm_var 0) pm_int) (pm_tup (pam_cons pm_str (pam_cons pm_str (pam_cons pm_str pam_nil))))) (psm_one (psm_ret (pm_bin om_add (pm_bin om_add (pm_bin om_add (pm_ix (pm_var 0) pm_int) pm_str) (pm_callE h__law_text hr (Nat.le_refl _) tk (pam_cons (pm_ix (pm_var 0) pm_int) pam_nil))) pm_str))) psm_nil)
      (psm_one (psm_ret (pm_bin om_add (pm_bin om_add (pm_bin om_add (pm_bin om_add pm_str (pm_callE h__law_text hr (Nat.le_refl _) tk (pam_cons (pm_ix (pm_var 0) pm_int) pam_nil))) (pm_dget (hu_of hr) (pm_disp (ppm_cons pm_str pm_str (ppm_cons pm_str pm_str (ppm_cons pm_str pm_str ppm_nil)))) (pm_ix (pm_var 0) pm_int))) (pm_callE h__law_text hr (Nat.le_refl _) tk (pam_cons (pm_ix (pm_var 0) pm_int) pam_nil))) pm_str)))))))
theorem sc__law_names_in : FnScope ["_law_forms", "_law_found", "_law_form_here"] ["_law_forms"] (defScope s__law_names_in) := ⟨rfl, rfl, rfl, by decide +kernel, rfl, by decide +kernel, by decide +kernel⟩
theorem ok__law_names_in (T : Txt w K mg) (hP : REX.PrgOk P "/claim/cut.py") : ∀ n : Nat, FnE P w K mg base (0 + n) "_law_names_in" s__law_names_in ["_law_forms"] (G__law_names_in n)
  | 0 => fnE_bad T.f__law_names_in
  | n + 1 => fn_e T.f__law_names_in sc__law_names_in fun f cdv A outer s H E hr tk => by
    have h__law_names_in := ok__law_names_in T hP n
    exact (psm_cons (psm_set 1 (pm_lstR pam_nil) sc__law_names_in.nd)
      (psm_cons (psm_for (vs := [2]) (passes_of rfl) rfl (pim_any (pm_var 0)) (pgm_name 2 sc__law_names_in.nd) (psm_one (psm_if (ptm_cmp (om_eq (hu64 hr)) (pm_ix (pm_var 2) pm_int) pm_str) (psm_one (psm_expr (pm_metL PySem.F.slot_list_append PySem.F.type_list_append mt_append ok_append (pm_var 1) (pam_cons (pm_ix (pm_var 2) pm_int) pam_nil)))) (psm_one (psm_set 1 (pm_bin om_addR (pm_var 1) (pm_callE h__law_names_in hr (Nat.le_refl _) tk (pam_cons (pm_callTy cm_list T.z_list (pam_cons (pm_slice (pm_var 2) (pom_some pm_int) pom_none) pam_nil)) pam_nil))) sc__law_names_in.nd)))))
      (psm_one (psm_ret (pm_srtsetS rfl rfl T.z_sorted rfl T.z_set (pm_var 1))))))
theorem sc__law_rest : FnScope ["_law_saying_here", "_law_word", "_law_one_z", "_law_other_z"] ["_law_saying_here"] (defScope s__law_rest) := ⟨rfl, rfl, rfl, by decide +kernel, rfl, by decide +kernel, by decide +kernel⟩
theorem ok__law_rest (T : Txt w K mg) (hP : REX.PrgOk P "/claim/cut.py") : FnE P w K mg base 1 "_law_rest" s__law_rest ["_law_saying_here"] G__law_rest := fn_e T.f__law_rest sc__law_rest fun f cdv A outer s H E hr tk => by
    exact (psm_cons (psm_asg (vs := [1, 2, 3]) (pm_var 0) (pgm_tup (n := 3) rfl (pgm_cons (pgm_name 1 sc__law_rest.nd) (pgm_cons (pgm_name 2 sc__law_rest.nd) (pgm_cons (pgm_name 3 sc__law_rest.nd) pgm_nil)))))
      (psm_cons (psm_if (ptm_cmp (om_eq (hu64 hr)) (pm_var 1) pm_str) (psm_one (psm_ret (pm_var 2))) psm_nil)
      (psm_one (psm_ret (pm_ifExp (ptm_cmp (om_eq (hu64 hr)) (pm_var 1) pm_str) (pm_tup (pam_cons pm_str (pam_cons (pm_var 2) (pam_cons (pm_var 3) pam_nil)))) (pm_tup (pam_cons pm_str (pam_cons (pm_tup (pam_cons pm_str (pam_cons (pm_var 2) (pam_cons (pm_var 3) pam_nil)))) (pam_cons (pm_tup (pam_cons pm_str (pam_cons (pm_var 3) (pam_cons (pm_var 2) pam_nil)))) pam_nil)))))))))
theorem sc__law_leaf : FnScope ["_law_bag", "_law_names"] ["_law_bag", "_law_names"] (defScope s__law_leaf) := ⟨rfl, rfl, rfl, by decide +kernel, rfl, by decide +kernel, by decide +kernel⟩
theorem ok__law_leaf (T : Txt w K mg) (hP : REX.PrgOk P "/claim/cut.py") (h__law_draw : FnE P w K mg base 1 "_law_draw" s__law_draw ["_law_bag", "_law_sides"] G__law_draw) (h__law_one : FnE P w K mg base 2 "_law_one" s__law_one ["_law_bag", "_law_things"] G__law_one) : FnE P w K mg base 3 "_law_leaf" s__law_leaf ["_law_bag", "_law_names"] G__law_leaf := fn_e T.f__law_leaf sc__law_leaf fun f cdv A outer s H E hr tk => by
    exact (psm_cons (psm_if (PWM.pt (pwm_or (ptm_cmp (om_eq (hu64 hr)) (pm_var 1) (pm_lst pam_nil)) (pwm_or1 (ptm_cmp (om_eq (hu64 hr)) (pm_callE h__law_draw hr (by decide) tk (pam_cons (pm_var 0) (pam_cons pm_int pam_nil))) pm_int)))) (psm_one (psm_ret (pm_callE h__law_one hr (by decide) tk (pam_cons (pm_var 0) (pam_cons (pm_lst (pam_cons (pm_tup (pam_cons pm_str pam_nil)) (pam_cons (pm_tup (pam_cons pm_str pam_nil)) pam_nil))) pam_nil))))) psm_nil)
      (psm_one (psm_ret (pm_tup (pam_cons pm_str (pam_cons (pm_callE h__law_one hr (by decide) tk (pam_cons (pm_var 0) (pam_cons (pm_var 1) pam_nil))) pam_nil))))))
theorem sc__law_form : FnScope ["_law_bag", "_law_names", "_law_deep", "_law_way", "_law_one_z"] ["_law_bag", "_law_names", "_law_deep"] (defScope s__law_form) := ⟨rfl, rfl, rfl, by decide +kernel, rfl, by decide +kernel, by decide +kernel⟩
theorem ok__law_form (T : Txt w K mg) (hP : REX.PrgOk P "/claim/cut.py") (h__law_draw : FnE P w K mg base 1 "_law_draw" s__law_draw ["_law_bag", "_law_sides"] G__law_draw) (h__law_leaf : FnE P w K mg base 3 "_law_leaf" s__law_leaf ["_law_bag", "_law_names"] G__law_leaf) : ∀ n : Nat, FnE P w K mg base (3 + n) "_law_form" s__law_form ["_law_bag", "_law_names", "_law_deep"] (G__law_form n)
  | 0 => fnE_bad T.f__law_form
  | n + 1 => fn_e T.f__law_form sc__law_form fun f cdv A outer s H E hr tk => by
    have h__law_form := ok__law_form T hP h__law_draw h__law_leaf n
    exact (psm_cons (psm_set 3 (pm_callE h__law_draw hr (Nat.le_trans (by decide : 1 ≤ 3) (Nat.le_add_right 3 _)) tk (pam_cons (pm_var 0) (pam_cons pm_int pam_nil))) sc__law_form.nd)
      (psm_cons (psm_if (PWM.pt (pwm_or (ptm_cmp om_lt (pm_var 2) pm_int) (pwm_or1 (ptm_cmp (om_eq (hu64 hr)) (pm_var 3) pm_int)))) (psm_one (psm_ret (pm_callE h__law_leaf hr (Nat.le_trans (by decide : 3 ≤ 3) (Nat.le_add_right 3 _)) tk (pam_cons (pm_var 0) (pam_cons (pm_var 1) pam_nil))))) psm_nil)
      (psm_cons (psm_set 4 (pm_callE h__law_form hr (Nat.le_refl _) tk (pam_cons (pm_var 0) (pam_cons (pm_var 1) (pam_cons (pm_bin om_sub (pm_var 2) pm_int) pam_nil)))) sc__law_form.nd)
      (psm_cons (psm_if (ptm_cmp om_lt (pm_var 3) pm_int) (psm_one (psm_ret (pm_tup (pam_cons (pm_ix (pm_lst (pam_cons pm_str (pam_cons pm_str (pam_cons pm_str (pam_cons pm_str pam_nil))))) (pm_bin om_sub (pm_var 3) pm_int)) (pam_cons (pm_var 4) pam_nil))))) psm_nil)
      (psm_one (psm_ret (pm_tup (pam_cons (pm_ix (pm_lst (pam_cons pm_str (pam_cons pm_str (pam_cons pm_str (pam_cons pm_str pam_nil))))) (pm_bin om_sub (pm_var 3) pm_int)) (pam_cons (pm_var 4) (pam_cons (pm_callE h__law_form hr (Nat.le_refl _) tk (pam_cons (pm_var 0) (pam_cons (pm_var 1) (pam_cons (pm_bin om_sub (pm_var 2) pm_int) pam_nil)))) pam_nil))))))))))
theorem sc__law_saying : FnScope ["_law_bag", "_law_names", "_law_deep", "_law_word", "_law_one_z"] ["_law_bag", "_law_names", "_law_deep"] (defScope s__law_saying) := ⟨rfl, rfl, rfl, by decide +kernel, rfl, by decide +kernel, by decide +kernel⟩
theorem ok__law_saying (T : Txt w K mg) (hP : REX.PrgOk P "/claim/cut.py") (h__law_one : FnE P w K mg base 2 "_law_one" s__law_one ["_law_bag", "_law_things"] G__law_one) (h__law_form : FnE P w K mg base 13 "_law_form" s__law_form ["_law_bag", "_law_names", "_law_deep"] (G__law_form 10)) : FnE P w K mg base 14 "_law_saying" s__law_saying ["_law_bag", "_law_names", "_law_deep"] G__law_saying := fn_e T.f__law_saying sc__law_saying fun f cdv A outer s H E hr tk => by
    exact (psm_cons (psm_par 3 4 rfl sc__law_saying.nd (pam_cons (pm_callE h__law_one hr (by decide) tk (pam_cons (pm_var 0) (pam_cons (pm_lst (pam_cons pm_str (pam_cons pm_str (pam_cons pm_str (pam_cons pm_str pam_nil))))) pam_nil))) (pam_cons (pm_callE h__law_form hr (by decide) tk (pam_cons (pm_var 0) (pam_cons (pm_var 1) (pam_cons (pm_var 2) pam_nil)))) pam_nil)))
      (psm_one (psm_ret (pm_tup (pam_cons (pm_var 3) (pam_cons (pm_var 4) (pam_cons (pm_ifExp (ptm_cmp (om_eq (hu64 hr)) (pm_var 3) pm_str) pm_non (pm_callE h__law_form hr (by decide) tk (pam_cons (pm_var 0) (pam_cons (pm_var 1) (pam_cons (pm_var 2) pam_nil))))) pam_nil)))))))
theorem sc__law_saying_text : FnScope ["_law_saying_here", "_law_word", "_law_one_z", "_law_other_z"] ["_law_saying_here"] (defScope s__law_saying_text) := ⟨rfl, rfl, rfl, by decide +kernel, rfl, by decide +kernel, by decide +kernel⟩
theorem ok__law_saying_text (T : Txt w K mg) (hP : REX.PrgOk P "/claim/cut.py") (h__law_text : FnE P w K mg base 24 "_law_text" s__law_text ["_law_form_here"] (G__law_text 24)) : FnE P w K mg base 25 "_law_saying_text" s__law_saying_text ["_law_saying_here"] G__law_saying_text := fn_e T.f__law_saying_text sc__law_saying_text fun f cdv A outer s H E hr tk => by
    exact (psm_cons (psm_asg (vs := [1, 2, 3]) (pm_var 0) (pgm_tup (n := 3) rfl (pgm_cons (pgm_name 1 sc__law_saying_text.nd) (pgm_cons (pgm_name 2 sc__law_saying_text.nd) (pgm_cons (pgm_name 3 sc__law_saying_text.nd) pgm_nil)))))
      (psm_cons (psm_if (ptm_cmp (om_eq (hu64 hr)) (pm_var 1) pm_str) (psm_one (psm_ret (pm_bin om_add (pm_callE h__law_text hr (by decide) tk (pam_cons (pm_var 2) pam_nil)) pm_str))) psm_nil)
      (psm_one (psm_ret (pm_bin om_add (pm_bin om_add (pm_callE h__law_text hr (by decide) tk (pam_cons (pm_var 2) pam_nil)) (pm_ifExp (ptm_cmp (om_eq (hu64 hr)) (pm_var 1) pm_str) pm_str pm_str)) (pm_callE h__law_text hr (by decide) tk (pam_cons (pm_var 3) pam_nil)))))))
theorem sc_Term_whole : FnScope [] [] (defScope s_Term_whole) := ⟨rfl, rfl, rfl, by decide +kernel, rfl, by decide +kernel, by decide +kernel⟩
theorem ok_Term_whole (T : Txt w K mg) (hP : REX.PrgOk P "/claim/cut.py") (h_Term___init__ : MkE P w K mg base 1 "Term" ["node", "deep", "part_count"]) : StE P w K mg base 3 "Term" "whole" "Term.whole" s_Term_whole [] G_Term_whole := st_e T.f_Term_whole sc_Term_whole fun f cdv A outer s H E hr tk => by
    exact (psm_one (psm_ret (pm_make h_Term___init__ hr (by decide) tk (pam_cons (pm_tup (pam_cons pm_str pam_nil)) (pam_cons pm_int (pam_cons pm_int pam_nil))))))
theorem sc_Term_nothing : FnScope [] [] (defScope s_Term_nothing) := ⟨rfl, rfl, rfl, by decide +kernel, rfl, by decide +kernel, by decide +kernel⟩
theorem ok_Term_nothing (T : Txt w K mg) (hP : REX.PrgOk P "/claim/cut.py") (h_Term___init__ : MkE P w K mg base 1 "Term" ["node", "deep", "part_count"]) : StE P w K mg base 3 "Term" "nothing" "Term.nothing" s_Term_nothing [] G_Term_nothing := st_e T.f_Term_nothing sc_Term_nothing fun f cdv A outer s H E hr tk => by
    exact (psm_one (psm_ret (pm_make h_Term___init__ hr (by decide) tk (pam_cons (pm_tup (pam_cons pm_str pam_nil)) (pam_cons pm_int (pam_cons pm_int pam_nil))))))
theorem sc_Term___and__ : FnScope ["self", "other"] ["self", "other"] (defScope s_Term___and__) := ⟨rfl, rfl, rfl, by decide +kernel, rfl, by decide +kernel, by decide +kernel⟩
theorem ok_Term___and__ (T : Txt w K mg) (hP : REX.PrgOk P "/claim/cut.py") (h_joined : StarE P w K mg base 4 "joined" 1 G_joined) : MeE P w K mg base 5 "Term" "__and__" "Term.__and__" s_Term___and__ ["self", "other"] G_Term___and__ := me_e T.f_Term___and__ sc_Term___and__ fun f cdv A outer s H E hr tk => by
    exact (psm_one (psm_ret (pm_callV h_joined hr (by decide) tk (pam_cons pm_str (pam_cons (pm_var 0) (pam_cons (pm_var 1) pam_nil))))))
theorem sc_Term___rand__ : FnScope ["self", "other"] ["self", "other"] (defScope s_Term___rand__) := ⟨rfl, rfl, rfl, by decide +kernel, rfl, by decide +kernel, by decide +kernel⟩
theorem ok_Term___rand__ (T : Txt w K mg) (hP : REX.PrgOk P "/claim/cut.py") (h_joined : StarE P w K mg base 4 "joined" 1 G_joined) : MeE P w K mg base 5 "Term" "__rand__" "Term.__rand__" s_Term___rand__ ["self", "other"] G_Term___rand__ := me_e T.f_Term___rand__ sc_Term___rand__ fun f cdv A outer s H E hr tk => by
    exact (psm_one (psm_ret (pm_callV h_joined hr (by decide) tk (pam_cons pm_str (pam_cons (pm_var 1) (pam_cons (pm_var 0) pam_nil))))))
theorem sc_Term___invert__ : FnScope ["self"] ["self"] (defScope s_Term___invert__) := ⟨rfl, rfl, rfl, by decide +kernel, rfl, by decide +kernel, by decide +kernel⟩
theorem ok_Term___invert__ (T : Txt w K mg) (hP : REX.PrgOk P "/claim/cut.py") (h_joined : StarE P w K mg base 4 "joined" 1 G_joined) : MeE P w K mg base 5 "Term" "__invert__" "Term.__invert__" s_Term___invert__ ["self"] G_Term___invert__ := me_e T.f_Term___invert__ sc_Term___invert__ fun f cdv A outer s H E hr tk => by
    exact (psm_one (psm_ret (pm_callV h_joined hr (by decide) tk (pam_cons pm_str (pam_cons (pm_var 0) pam_nil)))))
theorem sc_Term_closed : FnScope ["self"] ["self"] (defScope s_Term_closed) := ⟨rfl, rfl, rfl, by decide +kernel, rfl, by decide +kernel, by decide +kernel⟩
theorem ok_Term_closed (T : Txt w K mg) (hP : REX.PrgOk P "/claim/cut.py") (h_joined : StarE P w K mg base 4 "joined" 1 G_joined) : MeE P w K mg base 5 "Term" "closed" "Term.closed" s_Term_closed ["self"] G_Term_closed := me_e T.f_Term_closed sc_Term_closed fun f cdv A outer s H E hr tk => by
    exact (psm_one (psm_ret (pm_callV h_joined hr (by decide) tk (pam_cons pm_str (pam_cons (pm_var 0) pam_nil)))))
theorem sc_Term_opened : FnScope ["self"] ["self"] (defScope s_Term_opened) := ⟨rfl, rfl, rfl, by decide +kernel, rfl, by decide +kernel, by decide +kernel⟩
theorem ok_Term_opened (T : Txt w K mg) (hP : REX.PrgOk P "/claim/cut.py") (h_joined : StarE P w K mg base 4 "joined" 1 G_joined) : MeE P w K mg base 5 "Term" "opened" "Term.opened" s_Term_opened ["self"] G_Term_opened := me_e T.f_Term_opened sc_Term_opened fun f cdv A outer s H E hr tk => by
    exact (psm_one (psm_ret (pm_callV h_joined hr (by decide) tk (pam_cons pm_str (pam_cons (pm_var 0) pam_nil)))))
theorem sc_Term_rim : FnScope ["self"] ["self"] (defScope s_Term_rim) := ⟨rfl, rfl, rfl, by decide +kernel, rfl, by decide +kernel, by decide +kernel⟩
theorem ok_Term_rim (T : Txt w K mg) (hP : REX.PrgOk P "/claim/cut.py") (h_joined : StarE P w K mg base 4 "joined" 1 G_joined) : MeE P w K mg base 5 "Term" "rim" "Term.rim" s_Term_rim ["self"] G_Term_rim := me_e T.f_Term_rim sc_Term_rim fun f cdv A outer s H E hr tk => by
    exact (psm_one (psm_ret (pm_callV h_joined hr (by decide) tk (pam_cons pm_str (pam_cons (pm_var 0) pam_nil)))))
theorem sc__law_term : FnScope ["_law_form_here", "_law_one_z", "_law_other_z"] ["_law_form_here"] (defScope s__law_term) := ⟨rfl, rfl, rfl, by decide +kernel, rfl, by decide +kernel, by decide +kernel⟩
theorem ok__law_term (T : Txt w K mg) (hP : REX.PrgOk P "/claim/cut.py") (h_Term_of : StE P w K mg base 3 "Term" "of" "Term.of" s_Term_of ["value"] G_Term_of) (h_Term___sub__ : MeE P w K mg base 5 "Term" "__sub__" "Term.__sub__" s_Term___sub__ ["self", "other"] G_Term___sub__) (h_Term___rsub__ : MeE P w K mg base 5 "Term" "__rsub__" "Term.__rsub__" s_Term___rsub__ ["self", "other"] G_Term___rsub__) (h_Term___or__ : MeE P w K mg base 5 "Term" "__or__" "Term.__or__" s_Term___or__ ["self", "other"] G_Term___or__) (h_Term___ror__ : MeE P w K mg base 5 "Term" "__ror__" "Term.__ror__" s_Term___ror__ ["self", "other"] G_Term___ror__) (h_Term_whole : StE P w K mg base 3 "Term" "whole" "Term.whole" s_Term_whole [] G_Term_whole) (h_Term_nothing : StE P w K mg base 3 "Term" "nothing" "Term.nothing" s_Term_nothing [] G_Term_nothing) (h_Term___and__ : MeE P w K mg base 5 "Term" "__and__" "Term.__and__" s_Term___and__ ["self", "other"] G_Term___and__) (h_Term___rand__ : MeE P w K mg base 5 "Term" "__rand__" "Term.__rand__" s_Term___rand__ ["self", "other"] G_Term___rand__) (h_Term___invert__ : MeE P w K mg base 5 "Term" "__invert__" "Term.__invert__" s_Term___invert__ ["self"] G_Term___invert__) (h_Term_closed : MeE P w K mg base 5 "Term" "closed" "Term.closed" s_Term_closed ["self"] G_Term_closed) (h_Term_opened : MeE P w K mg base 5 "Term" "opened" "Term.opened" s_Term_opened ["self"] G_Term_opened) (h_Term_rim : MeE P w K mg base 5 "Term" "rim" "Term.rim" s_Term_rim ["self"] G_Term_rim) : ∀ n : Nat, FnE P w K mg base (5 + n) "_law_term" s__law_term ["_law_form_here"] (G__law_term n)
  | 0 => fnE_bad T.f__law_term
  | n + 1 => fn_e T.f__law_term sc__law_term fun f cdv A outer s H E hr tk => by
    have h__law_term := ok__law_term T hP h_Term_of h_Term___sub__ h_Term___rsub__ h_Term___or__ h_Term___ror__ h_Term_whole h_Term_nothing h_Term___and__ h_Term___rand__ h_Term___invert__ h_Term_closed h_Term_opened h_Term_rim n
    exact (psm_cons (psm_if (ptm_cmp (om_in (hu65 hr)) (pm_ix (pm_var 0) pm_int) (pm_tup (pam_cons pm_str (pam_cons pm_str pam_nil)))) (psm_one (psm_ret (pm_ifExp (ptm_cmp (om_eq (hu64 hr)) (pm_ix (pm_var 0) pm_int) pm_str) (pm_stat0 h_Term_whole hr (Nat.le_trans (by decide : 3 ≤ 5) (Nat.le_add_right 5 _)) tk) (pm_stat0 h_Term_nothing hr (Nat.le_trans (by decide : 3 ≤ 5) (Nat.le_add_right 5 _)) tk)))) psm_nil)
      (psm_cons (psm_if (ptm_cmp (om_eq (hu64 hr)) (pm_ix (pm_var 0) pm_int) pm_str) (psm_one (psm_ret (pm_stat h_Term_of hr (Nat.le_trans (by decide : 3 ≤ 5) (Nat.le_add_right 5 _)) tk (pam_cons (pm_ix (pm_var 0) pm_int) pam_nil)))) psm_nil)
      (psm_cons (psm_set 1 (pm_callE h__law_term hr (Nat.le_refl _) tk (pam_cons (pm_ix (pm_var 0) pm_int) pam_nil)) sc__law_term.nd)
      (psm_cons (psm_if (ptm_cmp (om_in (hu65 hr)) (pm_ix (pm_var 0) pm_int) (pm_tup (pam_cons pm_str (pam_cons pm_str pam_nil)))) (psm_one (psm_ret (pm_ifExp (ptm_cmp (om_eq (hu64 hr)) (pm_ix (pm_var 0) pm_int) pm_str) (pm_meth0 h_Term_closed hr (Nat.le_trans (by decide : 5 ≤ 5) (Nat.le_add_right 5 _)) tk (pm_var 1)) (pm_meth0 h_Term_opened hr (Nat.le_trans (by decide : 5 ≤ 5) (Nat.le_add_right 5 _)) tk (pm_var 1))))) psm_nil)
      (psm_cons (psm_if (ptm_cmp (om_in (hu65 hr)) (pm_ix (pm_var 0) pm_int) (pm_tup (pam_cons pm_str (pam_cons pm_str pam_nil)))) (psm_one (psm_ret (pm_ifExp (ptm_cmp (om_eq (hu64 hr)) (pm_ix (pm_var 0) pm_int) pm_str) (pm_un (um_inv h_Term___invert__ hr (Nat.le_trans (by decide : 5 ≤ 5) (Nat.le_add_right 5 _)) tk rfl) (pm_var 1)) (pm_meth0 h_Term_rim hr (Nat.le_trans (by decide : 5 ≤ 5) (Nat.le_add_right 5 _)) tk (pm_var 1))))) psm_nil)
      (psm_cons (psm_set 2 (pm_callE h__law_term hr (Nat.le_refl _) tk (pam_cons (pm_ix (pm_var 0) pm_int) pam_nil)) sc__law_term.nd)
      (psm_one (psm_ret (pm_ifExp (ptm_cmp (om_eq (hu64 hr)) (pm_ix (pm_var 0) pm_int) pm_str) (pm_bin (om_own T.op_or h_Term___or__ h_Term___ror__ hr (Nat.le_trans (by decide : 5 ≤ 5) (Nat.le_add_right 5 _)) tk rfl rfl om_no) (pm_var 1) (pm_var 2)) (pm_ifExp (ptm_cmp (om_eq (hu64 hr)) (pm_ix (pm_var 0) pm_int) pm_str) (pm_bin (om_own T.op_and h_Term___and__ h_Term___rand__ hr (Nat.le_trans (by decide : 5 ≤ 5) (Nat.le_add_right 5 _)) tk rfl rfl om_no) (pm_var 1) (pm_var 2)) (pm_bin (om_own T.op_sub h_Term___sub__ h_Term___rsub__ hr (Nat.le_trans (by decide : 5 ≤ 5) (Nat.le_add_right 5 _)) tk rfl rfl om_sub) (pm_var 1) (pm_var 2))))))))))))
theorem sc__law_statement : FnScope ["_law_saying_here", "_law_word", "_law_one_z", "_law_other_z"] ["_law_saying_here"] (defScope s__law_statement) := ⟨rfl, rfl, rfl, by decide +kernel, rfl, by decide +kernel, by decide +kernel⟩
theorem ok__law_statement (T : Txt w K mg) (hP : REX.PrgOk P "/claim/cut.py") (h_Statement_empty : StE P w K mg base 4 "Statement" "empty" "Statement.empty" s_Statement_empty ["term"] G_Statement_empty) (h_Statement_within : StE P w K mg base 4 "Statement" "within" "Statement.within" s_Statement_within ["one", "other"] G_Statement_within) (h_Statement_equal : StE P w K mg base 4 "Statement" "equal" "Statement.equal" s_Statement_equal ["one", "other"] G_Statement_equal) (h__law_term : FnE P w K mg base 15 "_law_term" s__law_term ["_law_form_here"] (G__law_term 10)) : FnE P w K mg base 16 "_law_statement" s__law_statement ["_law_saying_here"] G__law_statement := fn_e T.f__law_statement sc__law_statement fun f cdv A outer s H E hr tk => by
    exact (psm_cons (psm_asg (vs := [1, 2, 3]) (pm_var 0) (pgm_tup (n := 3) rfl (pgm_cons (pgm_name 1 sc__law_statement.nd) (pgm_cons (pgm_name 2 sc__law_statement.nd) (pgm_cons (pgm_name 3 sc__law_statement.nd) pgm_nil)))))
      (psm_cons (psm_if (ptm_cmp (om_eq (hu64 hr)) (pm_var 1) pm_str) (psm_one (psm_ret (pm_stat h_Statement_empty hr (by decide) tk (pam_cons (pm_callE h__law_term hr (by decide) tk (pam_cons (pm_var 2) pam_nil)) pam_nil)))) psm_nil)
      (psm_one (psm_ret (pm_ifExp (ptm_cmp (om_eq (hu64 hr)) (pm_var 1) pm_str) (pm_stat h_Statement_within hr (by decide) tk (pam_cons (pm_callE h__law_term hr (by decide) tk (pam_cons (pm_var 2) pam_nil)) (pam_cons (pm_callE h__law_term hr (by decide) tk (pam_cons (pm_var 3) pam_nil)) pam_nil))) (pm_stat h_Statement_equal hr (by decide) tk (pam_cons (pm_callE h__law_term hr (by decide) tk (pam_cons (pm_var 2) pam_nil)) (pam_cons (pm_callE h__law_term hr (by decide) tk (pam_cons (pm_var 3) pam_nil)) pam_nil))))))))
theorem sc_law : FnScope ["_law_script", "_law_bag", "_law_names", "_law_turn", "_law_bad", "_law_asks", "_law_forms", "_law_told", "_law_due", "_law_found", "_law_saying_here", "_law_late", "_law_made", "_law_shown", "_law_same_here", "_law_other_z", "_law_form_here"] ["_law_script"] (defScope s_law) := ⟨rfl, rfl, rfl, by decide +kernel, rfl, by decide +kernel, by decide +kernel⟩
theorem ok_law (T : Txt w K mg) (hP : REX.PrgOk P "/claim/cut.py") (h_Term_text : MeE P w K mg base 25 "Term" "text" "Term.text" s_Term_text ["self"] G_Term_text) (h_Statement_read : StE P w K mg base 31 "Statement" "read" "Statement.read" s_Statement_read ["text"] G_Statement_read) (h_Statement_relation : PrE P w K mg base 1 "Statement" "relation" "Statement.relation" s_Statement_relation ["self"] G_Statement_relation) (h_Statement_one : PrE P w K mg base 1 "Statement" "one" "Statement.one" s_Statement_one ["self"] G_Statement_one) (h_Statement_other : PrE P w K mg base 1 "Statement" "other" "Statement.other" s_Statement_other ["self"] G_Statement_other) (h_Statement_rest : MeE P w K mg base 7 "Statement" "rest" "Statement.rest" s_Statement_rest ["self"] G_Statement_rest) (h_Statement_names : MeE P w K mg base 13 "Statement" "names" "Statement.names" s_Statement_names ["self"] G_Statement_names) (h_Statement_text : MeE P w K mg base 29 "Statement" "text" "Statement.text" s_Statement_text ["self"] G_Statement_text) (h_Statement___str__ : MeE P w K mg base 30 "Statement" "__str__" "Statement.__str__" s_Statement___str__ ["self"] G_Statement___str__) (h_Statement___eq__ : MeE P w K mg base 30 "Statement" "__eq__" "Statement.__eq__" s_Statement___eq__ ["self", "other"] G_Statement___eq__) (h_Statement___repr__ : MeE P w K mg base 30 "Statement" "__repr__" "Statement.__repr__" s_Statement___repr__ ["self"] G_Statement___repr__) (h__law_cells : FnE P w K mg base 1 "_law_cells" s__law_cells ["_law_script"] G__law_cells) (h__law_one : FnE P w K mg base 2 "_law_one" s__law_one ["_law_bag", "_law_things"] G__law_one) (h__law_same : FnE P w K mg base 10 "_law_same" s__law_same ["_law_found", "_law_due"] (G__law_same 10)) (h__law_whys : FnE P w K mg base 32 "_law_whys" s__law_whys ["_law_asks"] G__law_whys) (h__law_words : FnE P w K mg base 3 "_law_words" s__law_words ["_law_bag", "_law_many"] G__law_words) (h__law_text : FnE P w K mg base 24 "_law_text" s__law_text ["_law_form_here"] (G__law_text 24)) (h__law_names_in : FnE P w K mg base 10 "_law_names_in" s__law_names_in ["_law_forms"] (G__law_names_in 10)) (h__law_rest : FnE P w K mg base 1 "_law_rest" s__law_rest ["_law_saying_here"] G__law_rest) (h__law_saying : FnE P w K mg base 14 "_law_saying" s__law_saying ["_law_bag", "_law_names", "_law_deep"] G__law_saying) (h__law_saying_text : FnE P w K mg base 25 "_law_saying_text" s__law_saying_text ["_law_saying_here"] G__law_saying_text) (h__law_statement : FnE P w K mg base 16 "_law_statement" s__law_statement ["_law_saying_here"] G__law_statement) (TK : TabK base K mg "law") : FnE P w K mg base 33 "law" s_law ["_law_script"] G_law := fn_mkE T.f_law sc_law TK fun f cdv A outer s H E hr tk hM hE => by
    exact (psm_cons (psm_set 1 (pm_callE h__law_cells hr (by decide) tk (pam_cons (pm_var 0) pam_nil)) sc_law.nd)
      (psm_cons (psm_set 2 (pm_callE h__law_words hr (by decide) tk (pam_cons (pm_var 1) (pam_cons pm_int pam_nil))) sc_law.nd)
      (psm_cons (psm_for (vs := [3]) (passes_of rfl) rfl (pim_range1 T.z_range (pam_cons pm_int pam_nil)) (pgm_name 3 sc_law.nd) (psm_cons (psm_par 10 11 rfl sc_law.nd (pam_cons (pm_callE h__law_saying hr (by decide) tk (pam_cons (pm_var 1) (pam_cons (pm_var 2) (pam_cons pm_int pam_nil)))) (pam_cons (pm_callE h__law_saying hr (by decide) tk (pam_cons (pm_var 1) (pam_cons (pm_var 2) (pam_cons pm_int pam_nil)))) pam_nil)))
      (psm_cons (psm_par 12 13 rfl sc_law.nd (pam_cons (pm_callE h__law_statement hr (by decide) tk (pam_cons (pm_var 10) pam_nil)) (pam_cons (pm_callE h__law_saying_text hr (by decide) tk (pam_cons (pm_var 10) pam_nil)) pam_nil)))
      (psm_cons (psm_setLc (own := [("_law_form_here", 16)]) 6 rfl sc_law.nd (pim_any (pm_slice (pm_var 10) (pom_some pm_int) pom_none)) (show blkC ["_law_script", "_law_bag", "_law_names", "_law_turn", "_law_bad", "_law_asks", "_law_forms", "_law_told", "_law_due", "_law_found", "_law_saying_here", "_law_late", "_law_made", "_law_shown", "_law_same_here", "_law_other_z", "_law_form_here"] (defScope s_law) _ [("_law_form_here", 16)] = true by decide +kernel) ⟨fun _ _ _ _ _ => (pgm_name 16 sc_law.nd), fun _ _ _ _ _ => (ptsm_one (ptm_cmp om_isNot (pm_var 16) pm_non)), fun _ _ _ _ _ => (pm_var 16)⟩)
      (psm_cons (psm_set 7 (pm_lst (pam_cons (pm_meth0 h_Statement_text hr (by decide) tk (pm_var 12)) (pam_cons (pm_callTy (cm_ownStr h_Statement___str__ hr (by decide) tk rfl) T.z_str (pam_cons (pm_var 12) pam_nil)) (pam_cons (pm_callB (cm_ownRepr h_Statement___repr__ hr (by decide) tk rfl) T.z_repr (pam_cons (pm_var 12) pam_nil)) (pam_cons (pm_prop h_Statement_relation hr (by decide) (pm_var 12)) (pam_cons (pm_meth0 h_Term_text hr (by decide) tk (pm_prop h_Statement_one hr (by decide) (pm_var 12))) (pam_cons (pm_ifExp (ptm_cmp om_is (pm_prop h_Statement_other hr (by decide) (pm_var 12)) pm_non) pm_non (pm_meth0 h_Term_text hr (by decide) tk (pm_prop h_Statement_other hr (by decide) (pm_var 12)))) (pam_cons (pm_meth0 h_Statement_names hr (by decide) tk (pm_var 12)) (pam_cons (pm_meth0 h_Term_text hr (by decide) tk (pm_meth0 h_Statement_rest hr (by decide) tk (pm_var 12))) pam_nil))))))))) sc_law.nd)
      (psm_cons (psm_set 8 (pm_lst (pam_cons (pm_var 13) (pam_cons (pm_var 13) (pam_cons (pm_bin om_add (pm_bin om_add pm_str (pm_var 13)) pm_str) (pam_cons (pm_ix (pm_var 10) pm_int) (pam_cons (pm_callE h__law_text hr (by decide) tk (pam_cons (pm_ix (pm_var 10) pm_int) pam_nil)) (pam_cons (pm_ifExp (ptm_cmp om_is (pm_ix (pm_var 10) pm_int) pm_non) pm_non (pm_callE h__law_text hr (by decide) tk (pam_cons (pm_ix (pm_var 10) pm_int) pam_nil))) pam_nil))))))) sc_law.nd)
      (psm_cons (psm_if (ptm_not (ptm_tru (pm_callE h__law_same hr (by decide) tk (pam_cons (pm_var 7) (pam_cons (pm_bin om_add (pm_var 8) (pm_lst (pam_cons (pm_callE h__law_names_in hr (by decide) tk (pam_cons (pm_var 6) pam_nil)) (pam_cons (pm_callE h__law_text hr (by decide) tk (pam_cons (pm_callE h__law_rest hr (by decide) tk (pam_cons (pm_var 10) pam_nil)) pam_nil)) pam_nil)))) pam_nil))))) (psm_one (psm_ret pm_bl)) psm_nil)
      (psm_cons (psm_par 14 15 rfl sc_law.nd (pam_cons (pm_cmp (om_ownEq T.eq_Statement h_Statement___eq__ hr (by decide) tk rfl false rfl (om_eq (hu64 hr))) (pm_var 13) (pm_callE h__law_saying_text hr (by decide) tk (pam_cons (pm_var 11) pam_nil))) (pam_cons (pm_callE h__law_statement hr (by decide) tk (pam_cons (pm_var 11) pam_nil)) pam_nil)))
      (psm_cons (psm_set 9 (pm_lst (pam_cons (pm_cmp (om_ownEq T.eq_Statement h_Statement___eq__ hr (by decide) tk rfl false rfl (om_eq (hu64 hr))) (pm_stat h_Statement_read hr (by decide) tk (pam_cons (pm_var 13) pam_nil)) (pm_var 12)) (pam_cons (pm_meth0 h_Statement_text hr (by decide) tk (pm_statK0 [0] ["text"] h_Statement_read hr (by decide) tk (pkm_cons (pm_var 13) pkm_nil) (fun _ _ _ _ _ _ us ws hu hw => match us, ws, hu, hw with | [], [_], _, _ => rfl))) (pam_cons (pm_cmp (om_ownEq T.eq_Statement h_Statement___eq__ hr (by decide) tk rfl false rfl (om_eq (hu64 hr))) (pm_var 12) (pm_var 15)) (pam_cons (pm_cmp (om_ownEq T.eq_Statement h_Statement___eq__ hr (by decide) tk rfl true rfl (om_ne (hu64 hr))) (pm_var 12) (pm_var 15)) (pam_cons (pm_cmp (om_ownEq T.eq_Statement h_Statement___eq__ hr (by decide) tk rfl false rfl (om_eq (hu64 hr))) (pm_var 12) (pm_var 13)) pam_nil)))))) sc_law.nd)
      (psm_cons (psm_if (ptm_not (ptm_tru (pm_callE h__law_same hr (by decide) tk (pam_cons (pm_var 9) (pam_cons (pm_lst (pam_cons pm_bl (pam_cons (pm_var 13) (pam_cons (pm_var 14) (pam_cons (pm_not (pm_var 14)) (pam_cons pm_bl pam_nil)))))) pam_nil))))) (psm_one (psm_ret pm_bl)) psm_nil)
      (psm_one (psm_expr (pm_metL PySem.F.slot_list_append PySem.F.type_list_append mt_append ok_append (pm_meth0 h_Statement_names hr (by decide) tk (pm_var 12)) (pam_cons pm_str pam_nil))))))))))))))
      (psm_cons (psm_set 4 (pm_callE h__law_one hr (by decide) tk (pam_cons (pm_var 1) (pam_cons (pm_lst (pam_cons pm_non (pam_cons pm_int (pam_cons pm_str (pam_cons pm_str (pam_cons pm_str (pam_cons pm_bl (pam_cons (pm_tup (pam_cons pm_str pam_nil)) pam_nil)))))))) pam_nil))) sc_law.nd)
      (psm_cons (psm_set 5 (pm_lst (pam_cons (pm_lam0B hM hE 0 0 (show frB (defScope s_law) L_0.sc = true by decide +kernel)) (pam_cons (pm_lam1B hM hE 0 1 (show frB (defScope s_law) L_1.sc = true by decide +kernel)) (pam_cons (pm_lam1B hM hE 0 2 (show frB (defScope s_law) L_2.sc = true by decide +kernel)) (pam_cons (pm_lam1B hM hE 0 3 (show frB (defScope s_law) L_3.sc = true by decide +kernel)) (pam_cons (pm_lam1B hM hE 0 4 (show frB (defScope s_law) L_4.sc = true by decide +kernel)) (pam_cons (pm_lam1B hM hE 0 5 (show frB (defScope s_law) L_5.sc = true by decide +kernel)) pam_nil))))))) sc_law.nd)
      (psm_one (psm_ret (pm_callE h__law_same hr (by decide) tk (pam_cons (pm_callC [(0, [4]), (1, [4]), (2, [4, 2]), (3, [4]), (4, [4, 2]), (5, [2])] h__law_whys hr (by decide) tk (fun _ => rfl) hE (show ixB ["_law_script", "_law_bag", "_law_names", "_law_turn", "_law_bad", "_law_asks", "_law_forms", "_law_told", "_law_due", "_law_found", "_law_saying_here", "_law_late", "_law_made", "_law_shown", "_law_same_here", "_law_other_z", "_law_form_here"] (defScope s_law) [(0, [4]), (1, [4]), (2, [4, 2]), (3, [4]), (4, [4, 2]), (5, [2])] = true by decide +kernel) (pam_cons (pm_var 5) pam_nil)) (pam_cons (pm_bin om_add (pm_bin om_mul (pm_lst (pam_cons (pm_tup (pam_cons pm_str (pam_cons (pm_var 4) pam_nil))) pam_nil)) pm_int) (pm_lst (pam_cons (pm_tup (pam_cons pm_str (pam_cons (pm_bin om_add (pm_ix (pm_var 2) pm_int) pm_str) pam_nil))) pam_nil))) pam_nil))))))))))
theorem all_ok (T : Txt w K mg) (hP : REX.PrgOk P "/claim/cut.py") (TK_law : TabK base K mg "law") : FnE P w K mg base 33 "law" s_law ["_law_script"] G_law := by
  have h_node_text := ok_node_text (P := P) (w := w) (base := base) T hP 24
  have h_Term_text := ok_Term_text (P := P) (w := w) (base := base) T hP h_node_text
  have h_inner_nodes := ok_inner_nodes (P := P) (w := w) (base := base) T hP
  have h_depth_in := ok_depth_in (P := P) (w := w) (base := base) T hP h_inner_nodes 16
  have h_parts_in := ok_parts_in (P := P) (w := w) (base := base) T hP h_inner_nodes 16
  have h_Term___init__ := ok_Term___init__ (P := P) (w := w) (base := base) T
  have h_need_size := ok_need_size (P := P) (w := w) (base := base) T hP
  have h_sized_term := ok_sized_term (P := P) (w := w) (base := base) T hP h_depth_in h_parts_in h_Term___init__ h_need_size
  have h_Reader___init__ := ok_Reader___init__ (P := P) (w := w) (base := base) T hP
  have h_is_name := ok_is_name (P := P) (w := w) (base := base) T hP
  have h_Reader_take := ok_Reader_take (P := P) (w := w) (base := base) T hP
  have h_Reader_letters_here := ok_Reader_letters_here (P := P) (w := w) (base := base) T hP
  have h_Reader_part := ok_Reader_part (P := P) (w := w) (base := base) T hP h_is_name h_Reader_take h_Reader_letters_here 14
  have h_Term_read := ok_Term_read (P := P) (w := w) (base := base) T hP h_sized_term h_Reader___init__ h_Reader_part
  have h_Statement___init__ := ok_Statement___init__ (P := P) (w := w) (base := base) T
  have h_Statement_read := ok_Statement_read (P := P) (w := w) (base := base) T hP h_Term_read h_Statement___init__
  have h_Statement_relation := ok_Statement_relation (P := P) (w := w) (base := base) T hP
  have h_Statement_one := ok_Statement_one (P := P) (w := w) (base := base) T hP
  have h_Statement_other := ok_Statement_other (P := P) (w := w) (base := base) T hP
  have h_Term_of := ok_Term_of (P := P) (w := w) (base := base) T hP h_Term___init__ h_is_name
  have h_joined := ok_joined (P := P) (w := w) (base := base) T hP h_Term___init__ h_need_size h_Term_of
  have h_Term___sub__ := ok_Term___sub__ (P := P) (w := w) (base := base) T hP h_joined
  have h_Term___rsub__ := ok_Term___rsub__ (P := P) (w := w) (base := base) T hP h_joined
  have h_Term___or__ := ok_Term___or__ (P := P) (w := w) (base := base) T hP h_joined
  have h_Term___ror__ := ok_Term___ror__ (P := P) (w := w) (base := base) T hP h_joined
  have h_Term_depth := ok_Term_depth (P := P) (w := w) (base := base) T hP
  have h_difference := ok_difference (P := P) (w := w) (base := base) T hP h_need_size h_Term___sub__ h_Term___rsub__ h_Term___or__ h_Term___ror__ h_Term_depth
  have h_Statement_rest := ok_Statement_rest (P := P) (w := w) (base := base) T hP h_Term___sub__ h_Term___rsub__ h_difference
  have h_node_names := ok_node_names (P := P) (w := w) (base := base) T hP h_inner_nodes 10
  have h_Term_names := ok_Term_names (P := P) (w := w) (base := base) T hP h_node_names
  have h_Statement_terms := ok_Statement_terms (P := P) (w := w) (base := base) T hP
  have h_Statement_names := ok_Statement_names (P := P) (w := w) (base := base) T hP h_Term_names h_Statement_terms
  have h_Term___str__ := ok_Term___str__ (P := P) (w := w) (base := base) T hP h_Term_text
  have h_Statement_text := ok_Statement_text (P := P) (w := w) (base := base) T hP h_Term___str__
  have h_Statement___str__ := ok_Statement___str__ (P := P) (w := w) (base := base) T hP h_Statement_text
  have h_Statement___eq__ := ok_Statement___eq__ (P := P) (w := w) (base := base) T hP h_Statement_text
  have h_Statement___repr__ := ok_Statement___repr__ (P := P) (w := w) (base := base) T hP h_Statement_text
  have h__law_cells := ok__law_cells (P := P) (w := w) (base := base) T hP
  have h__law_draw := ok__law_draw (P := P) (w := w) (base := base) T hP
  have h__law_one := ok__law_one (P := P) (w := w) (base := base) T hP h__law_draw
  have h__law_same := ok__law_same (P := P) (w := w) (base := base) T hP 10
  have h__law_extra := ok__law_extra (P := P) (w := w) (base := base) T hP
  have h_Statement_empty := ok_Statement_empty (P := P) (w := w) (base := base) T hP h_Statement___init__ h_Term_of
  have h_lam0 := ok_lam0 (P := P) (w := w) (base := base) T hP h_Statement_empty
  have h_Statement_within := ok_Statement_within (P := P) (w := w) (base := base) T hP h_Statement___init__ h_Term_of
  have h_lam1 := ok_lam1 (P := P) (w := w) (base := base) T hP h_Statement_within
  have h_lam2 := ok_lam2 (P := P) (w := w) (base := base) T hP h_Statement_within
  have h_Statement_equal := ok_Statement_equal (P := P) (w := w) (base := base) T hP h_Statement___init__ h_Term_of
  have h_lam3 := ok_lam3 (P := P) (w := w) (base := base) T hP h_Statement_equal
  have h_lam4 := ok_lam4 (P := P) (w := w) (base := base) T hP h_Statement_equal
  have h_lam5 := ok_lam5 (P := P) (w := w) (base := base) T hP h_Statement_text h_Statement_empty
  have h_clos := ok_clos (P := P) (w := w) (K := K) (mg := mg) (base := base) h_lam0 h_lam1 h_lam2 h_lam3 h_lam4 h_lam5
  have h__law_why := ok__law_why (P := P) (w := w) (base := base) T hP h__law_extra h_clos
  have h__law_whys := ok__law_whys (P := P) (w := w) (base := base) T hP h__law_why
  have h__law_words := ok__law_words (P := P) (w := w) (base := base) T hP h__law_draw h__law_one
  have h__law_text := ok__law_text (P := P) (w := w) (base := base) T hP 24
  have h__law_names_in := ok__law_names_in (P := P) (w := w) (base := base) T hP 10
  have h__law_rest := ok__law_rest (P := P) (w := w) (base := base) T hP
  have h__law_leaf := ok__law_leaf (P := P) (w := w) (base := base) T hP h__law_draw h__law_one
  have h__law_form := ok__law_form (P := P) (w := w) (base := base) T hP h__law_draw h__law_leaf 10
  have h__law_saying := ok__law_saying (P := P) (w := w) (base := base) T hP h__law_one h__law_form
  have h__law_saying_text := ok__law_saying_text (P := P) (w := w) (base := base) T hP h__law_text
  have h_Term_whole := ok_Term_whole (P := P) (w := w) (base := base) T hP h_Term___init__
  have h_Term_nothing := ok_Term_nothing (P := P) (w := w) (base := base) T hP h_Term___init__
  have h_Term___and__ := ok_Term___and__ (P := P) (w := w) (base := base) T hP h_joined
  have h_Term___rand__ := ok_Term___rand__ (P := P) (w := w) (base := base) T hP h_joined
  have h_Term___invert__ := ok_Term___invert__ (P := P) (w := w) (base := base) T hP h_joined
  have h_Term_closed := ok_Term_closed (P := P) (w := w) (base := base) T hP h_joined
  have h_Term_opened := ok_Term_opened (P := P) (w := w) (base := base) T hP h_joined
  have h_Term_rim := ok_Term_rim (P := P) (w := w) (base := base) T hP h_joined
  have h__law_term := ok__law_term (P := P) (w := w) (base := base) T hP h_Term_of h_Term___sub__ h_Term___rsub__ h_Term___or__ h_Term___ror__ h_Term_whole h_Term_nothing h_Term___and__ h_Term___rand__ h_Term___invert__ h_Term_closed h_Term_opened h_Term_rim 10
  have h__law_statement := ok__law_statement (P := P) (w := w) (base := base) T hP h_Statement_empty h_Statement_within h_Statement_equal h__law_term
  have h_law := ok_law (P := P) (w := w) (base := base) T hP h_Term_text h_Statement_read h_Statement_relation h_Statement_one h_Statement_other h_Statement_rest h_Statement_names h_Statement_text h_Statement___str__ h_Statement___eq__ h_Statement___repr__ h__law_cells h__law_one h__law_same h__law_whys h__law_words h__law_text h__law_names_in h__law_rest h__law_saying h__law_saying_text h__law_statement TK_law
  exact h_law
end
end Dk09
end
section
set_option maxRecDepth 100000
set_option maxHeartbeats 4000000
namespace Dk09
open PySem PySem.Spec L2 RL OrdX
open LC
open LTm hiding G_Term___and__ G_Term___invert__ G_Term___or__ G_Term___rand__ G_Term___ror__ G_Term___rsub__ G_Term___sub__ G_Term_closed G_Term_of G_Term_opened G_Term_rim G__law_term G_joined joined1 joined2 of_name of_term opG opR sh_Term___and__ sh_Term___invert__ sh_Term___or__ sh_Term___rand__ sh_Term___ror__ sh_Term___rsub__ sh_Term___sub__ sh_Term_closed sh_Term_of sh_Term_opened sh_Term_rim sh__law_term sh_joined
open LTi
open PyProof.Rows hiding St
/-! ### sayings -/
inductive Rl3 where
  | empty | within | equal
  deriving DecidableEq
noncomputable def Rl3.s : Rl3 → Str
  | .empty => "empty" | .within => "within" | .equal => "equal"
@[simp] theorem r_inj {a b : Rl3} : (a.s = b.s) ↔ a = b := by cases a <;> cases b <;> decide +kernel
theorem l_empty : (Str.ofString "empty") = Rl3.empty.s := rfl
theorem l_within : (Str.ofString "within") = Rl3.within.s := rfl
theorem l_equal : (Str.ofString "equal") = Rl3.equal.s := rfl
/-- a saying: its relation, its forms (one alone where the relation is empty) -/
structure Sg where
  r : Rl3
  f : Form
  g : Form
noncomputable def Sg.w (s : Sg) : W := .tup [.str s.r.s, toW s.f, if s.r = .empty then .non else toW s.g]
noncomputable def Sg.st (s : Sg) : W := .ins "Statement" ["own_relation", "own_one", "own_other"] [.str s.r.s, termW s.f, if s.r = .empty then .non else termW s.g]
noncomputable def emptyL : List Nat := [32, 105, 115, 32, 101, 109, 112, 116, 121]
noncomputable def withinL : List Nat := [32, 119, 105, 116, 104, 105, 110, 32]
noncomputable def equalL : List Nat := [32, 61, 32]
noncomputable def Sg.mid (s : Sg) : List Nat := match s.r with
  | .empty => emptyL
  | .within => withinL
  | .equal => equalL
noncomputable def Sg.txt (s : Sg) : List Nat := LTm.txt s.f ++ s.mid ++ if s.r = .empty then [] else LTm.txt s.g
noncomputable def Sg.rest (s : Sg) : Form := match s.r with
  | .empty => s.f
  | .within => .bin .less s.f s.g
  | .equal => .bin .or (.bin .less s.f s.g) (.bin .less s.g s.f)
noncomputable def Sg.forms (s : Sg) : List Form := if s.r = .empty then [s.f] else [s.f, s.g]
/-- a drawn form -/
structure Drawn (f : Form) : Prop where
  nm : ∀ x, Sub (.name x) f → nameL x = true ∧ x.length ≤ 6
  dep : dep f ≤ 3
structure Dsg (s : Sg) : Prop where
  one : Drawn s.f
  two : Drawn s.g
theorem e_emp : Str.ofString " is empty" = tx emptyL := lit_eq (by decide +kernel)
theorem e_wit : Str.ofString " within " = tx withinL := lit_eq (by decide +kernel)
theorem e_eqv : Str.ofString " = " = tx equalL := lit_eq (by decide +kernel)
theorem empty_eq : c_EMPTY = .str (tx emptyL) := congrArg W.str e_emp
theorem lim_of {n : Nat} (h : n ≤ 4096) : n ≤ lim := Nat.le_trans h (by decide)
section
variable {f g : Form} {S : Store} {s : Sg}
theorem Drawn.len (h : Drawn f) : (LTm.txt f).length ≤ 128 := by
  have h1 := txt_le f fun x m => (h.nm x m).2
  have h2 : 2 ^ LTm.dep f ≤ 2 ^ 3 := Nat.pow_le_pow_right (by decide) h.dep
  omega
theorem Drawn.txt (h : Drawn f) : (LTm.txt f).length ≤ lim := lim_of (by have := h.len; omega)
theorem Drawn.nms (h : Drawn f) : (NM f).length ≤ 8 := by
  have h1 := NM_le f
  have h2 : 2 ^ LTm.dep f ≤ 2 ^ 3 := Nat.pow_le_pow_right (by decide) h.dep
  omega
theorem Drawn.term (h : Drawn f) : G__law_term 10 [toW f] S = .ok (termW f) S :=
  law_term_ok f 10 (by have := h.dep; omega) (fun g m => fits_of (by have := sub_dep m; have := h.dep; omega)) fun x m => ⟨(h.nm x m).1, lim_of (by have := (h.nm x m).2; omega)⟩
theorem Drawn.ltext (h : Drawn f) : G__law_text 24 [toW f] S = .ok (.str (tx (LTm.txt f))) S := law_text_ok f 24 (by have := h.dep; omega) h.txt
theorem Drawn.text (h : Drawn f) : G_Term_text [termW f] S = .ok (.str (tx (LTm.txt f))) S := text_ok (by have := h.dep; omega) h.txt
theorem methK_text {g : Fn} {mr : SM (List W)} {s : Env'} : methK "Term" "text" g mr s (termW f) S = (mr s S).bind fun us S2 => g (termW f :: us) S2 := methK_term (by decide +kernel)
theorem methK_depth {g : Fn} {mr : SM (List W)} {s : Env'} : methK "Term" "depth" g mr s (termW f) S = (mr s S).bind fun us S2 => g (termW f :: us) S2 := methK_term (by decide +kernel)
theorem methK_names {g : Fn} {mr : SM (List W)} {s : Env'} : methK "Term" "names" g mr s (termW f) S = (mr s S).bind fun us S2 => g (termW f :: us) S2 := methK_term (by decide +kernel)
theorem str_ok (h : Drawn f) : gOwnS "Term" G_Term___str__ (termW f) S = .ok (.str (tx (LTm.txt f))) S := by
  have t := fun T => h.text (S := T)
  have hz := h.txt
  simp [gOwnS, G_Term___str__, runB_eq, sh_Term___str__, startW, methK_text, t, hz]
theorem depth_ok : G_Term_depth [termW f] S = .ok (.int (LTm.dep f)) S := by
  simp [G_Term_depth, runB_eq, sh_Term_depth, startW]
theorem isIns_st : isIns "Statement" s.st = true := by simp [Sg.st]
theorem methK_st {m : Str} {g : Fn} {mr : SM (List W)} {e : Env'} (h : (["own_relation", "own_one", "own_other"] : List Str).contains m = false) : methK "Statement" m g mr e s.st S = (mr e S).bind fun us S2 => g (s.st :: us) S2 := by
  unfold Sg.st
  rw [methK_ins, if_pos ⟨rfl, h⟩]
theorem n1 : (Str.ofString "own_one" == Str.ofString "own_relation") = false := by decide +kernel
theorem n2 : (Str.ofString "own_other" == Str.ofString "own_relation") = false := by decide +kernel
theorem n3 : (Str.ofString "own_other" == Str.ofString "own_one") = false := by decide +kernel
@[simp] theorem fld_rel : gFld "Statement" "own_relation" s.st S = .ok (.str s.r.s) S := by simp [Sg.st, List.lookup]
@[simp] theorem fld_one : gFld "Statement" "own_one" s.st S = .ok (termW s.f) S := by simp [Sg.st, List.lookup, n1]
@[simp] theorem fld_other : gFld "Statement" "own_other" s.st S = .ok (if s.r = .empty then .non else termW s.g) S := by simp [Sg.st, List.lookup, n2, n3]
theorem make_st {r : Rl3} {w : W} : gMake "Statement" ["own_relation", "own_one", "own_other"] [.str r.s, termW f, w] S = .ok (.ins "Statement" ["own_relation", "own_one", "own_other"] [.str r.s, termW f, w]) S := by simp
theorem statement_ok (h : Dsg s) : G__law_statement [s.w] S = .ok s.st S := by
  obtain ⟨r, f, g⟩ := s
  have t1 := fun T => h.one.term (S := T)
  have t2 := fun T => h.two.term (S := T)
  simp only at t1 t2
  cases r <;> simp [-gMake_eq, G__law_statement, runB_eq, sh__law_statement, startW, Sg.w, Sg.st, l_empty, l_within, l_equal, t1, t2, G_Statement_empty, sh_Statement_empty, G_Statement_within, sh_Statement_within, G_Statement_equal, sh_Statement_equal, of_term, make_st]
theorem Dsg.len (h : Dsg s) : s.txt.length ≤ 280 := by
  have h1 := h.one.len
  have h2 := h.two.len
  obtain ⟨r, f, g⟩ := s
  cases r <;> simp [Sg.txt, Sg.mid, emptyL, withinL, equalL] at h1 h2 ⊢ <;> omega
theorem saying_text_ok (h : Dsg s) : G__law_saying_text [s.w] S = .ok (.str (tx s.txt)) S := by
  have hl := h.len
  have hlim : lim = 16777216 := rfl
  obtain ⟨r, f, g⟩ := s
  have t1 := fun T => h.one.ltext (S := T)
  have t2 := fun T => h.two.ltext (S := T)
  have l1 := h.one.len
  have l2 := h.two.len
  simp only at t1 t2 l1 l2
  cases r <;> simp [G__law_saying_text, runB_eq, sh__law_saying_text, startW, Sg.w, Sg.txt, Sg.mid, l_empty, l_within, l_equal, t1, t2, e_emp, e_wit, e_eqv, emptyL, withinL, equalL] at hl ⊢
  all_goals (repeat (first | rw [if_pos (by omega)] | simp [t2]))
theorem mid_look : c_MIDDLES.lookup s.r.s = if s.r = .empty then none else some (tx s.mid) := by
  obtain ⟨r, f, g⟩ := s
  cases r
  · show c_MIDDLES.lookup Rl3.empty.s = none
    decide +kernel
  · show c_MIDDLES.lookup Rl3.within.s = some (tx withinL)
    decide +kernel
  · show c_MIDDLES.lookup Rl3.equal.s = some (tx equalL)
    decide +kernel
theorem text_st (h : Dsg s) : G_Statement_text [s.st] S = .ok (.str (tx s.txt)) S := by
  have hl := h.len
  have hlim : lim = 16777216 := rfl
  have ml := mid_look (s := s)
  have t1 := fun T => str_ok (S := T) h.one
  have t2 := fun T => str_ok (S := T) h.two
  have l1 := h.one.len
  have l2 := h.two.len
  have l3 : s.mid.length ≤ 9 := by
    obtain ⟨r, f, g⟩ := s
    cases r <;> simp [Sg.mid, emptyL, withinL, equalL]
  by_cases hr : s.r = .empty
  · have e : s.txt = LTm.txt s.f ++ emptyL := by simp [Sg.txt, hr, Sg.mid]
    have l4 : emptyL.length = 9 := rfl
    simp [G_Statement_text, runB_eq, sh_Statement_text, startW, l_empty, hr, mFmtO, t1, empty_eq, e, l4, mJs]
    repeat (first | rw [if_pos (by omega)] | simp)
  · have e : s.txt = LTm.txt s.f ++ s.mid ++ LTm.txt s.g := by simp [Sg.txt, hr]
    simp [G_Statement_text, runB_eq, sh_Statement_text, startW, l_empty, hr, mFmtO, t1, t2, e, mCDict, ml, mJs]
    repeat (first | rw [if_pos (by omega)] | simp [ml, hr, t2])
end
end Dk09
end
section
set_option maxRecDepth 100000
set_option maxHeartbeats 4000000
namespace Dk09
open PySem PySem.Spec L2 RL OrdX
open LC
open LTm hiding G_Term___and__ G_Term___invert__ G_Term___or__ G_Term___rand__ G_Term___ror__ G_Term___rsub__ G_Term___sub__ G_Term_closed G_Term_of G_Term_opened G_Term_rim G__law_term G_joined joined1 joined2 of_name of_term opG opR sh_Term___and__ sh_Term___invert__ sh_Term___or__ sh_Term___rand__ sh_Term___ror__ sh_Term___rsub__ sh_Term___sub__ sh_Term_closed sh_Term_of sh_Term_opened sh_Term_rim sh__law_term sh_joined
open LTi
open PyProof.Rows hiding St
section
variable {f g : Form} {S : Store} {s s' : Sg}
theorem m_text {g : Fn} {mr : SM (List W)} {e : Env'} : methK "Statement" "text" g mr e s.st S = (mr e S).bind fun us S2 => g (s.st :: us) S2 := methK_st (by decide +kernel)
theorem m_rest {g : Fn} {mr : SM (List W)} {e : Env'} : methK "Statement" "rest" g mr e s.st S = (mr e S).bind fun us S2 => g (s.st :: us) S2 := methK_st (by decide +kernel)
theorem m_names {g : Fn} {mr : SM (List W)} {e : Env'} : methK "Statement" "names" g mr e s.st S = (mr e S).bind fun us S2 => g (s.st :: us) S2 := methK_st (by decide +kernel)
theorem m_terms {g : Fn} {mr : SM (List W)} {e : Env'} : methK "Statement" "terms" g mr e s.st S = (mr e S).bind fun us S2 => g (s.st :: us) S2 := methK_st (by decide +kernel)
theorem str_st (h : Dsg s) : gOwnS "Statement" G_Statement___str__ s.st S = .ok (.str (tx s.txt)) S := by
  have t := fun T => text_st (S := T) h
  have hl := h.len
  have hz : s.txt.length ≤ lim := lim_of (by omega)
  simp [gOwnS, isIns_st, G_Statement___str__, runB_eq, sh_Statement___str__, startW, m_text, t, hz]
noncomputable def stL : List Nat := [83, 116, 97, 116, 101, 109, 101, 110, 116, 40]
theorem e_st : (Str.ofString "Statement(") = tx stL := lit_eq (by decide +kernel)
theorem repr_st (h : Dsg s) : gOwnS "Statement" G_Statement___repr__ s.st S = .ok (.str (tx (stL ++ s.txt ++ [41]))) S := by
  have t := fun T => text_st (S := T) h
  have hl := h.len
  have hlim : lim = 16777216 := rfl
  have l4 : stL.length = 10 := rfl
  simp [gOwnS, isIns_st, G_Statement___repr__, runB_eq, sh_Statement___repr__, startW, m_text, t, e_st, mJs, l4]
  repeat (first | rw [if_pos (by omega)] | simp [t])
theorem mProp_eq {c : Str} {g : Fn} {mo : SM W} {e : Env'} : mProp c g mo e S = (mo e S).bind fun w S1 => match insAt S1 w with
  | some (c', _, _) => if c' = c then nox (g [w] S1) else .bad
  | none => .bad := rfl
theorem insAt_st : insAt S s.st = some (("Statement", ["own_relation", "own_one", "own_other"], [.str s.r.s, termW s.f, if s.r = .empty then .non else termW s.g]) : Str × List Str × List W) := rfl
theorem prop_st {g : Fn} {mo : SM W} {e : Env'} {w : W} (h : mo e S = .ok s.st S) (hg : g [s.st] S = .ok w S) : mProp "Statement" g mo e S = .ok w S := by
  rw [mProp_eq, h, ok_bind, insAt_st]
  dsimp only
  rw [if_pos rfl, hg]; rfl
theorem rel_ok : G_Statement_relation [s.st] S = .ok (.str s.r.s) S := by simp [G_Statement_relation, runB_eq, sh_Statement_relation, startW]
theorem one_ok : G_Statement_one [s.st] S = .ok (termW s.f) S := by simp [G_Statement_one, runB_eq, sh_Statement_one, startW]
theorem other_ok : G_Statement_other [s.st] S = .ok (if s.r = .empty then .non else termW s.g) S := by simp [G_Statement_other, runB_eq, sh_Statement_other, startW]
theorem Dsg.restOk (h : Dsg s) : LTm.dep s.rest ≤ 5 ∧ (LTm.txt s.rest).length ≤ 600 := by
  have h1 := h.one.dep
  have h2 := h.two.dep
  have l1 := h.one.len
  have l2 := h.two.len
  obtain ⟨r, f, g⟩ := s
  cases r <;> simp [Sg.rest, LTm.dep, txt_bin] at * <;> omega
theorem fits5 {f : Form} (h : LTm.dep f ≤ 5) : Fits f := fits_of (by omega)
theorem less_ok (hf : Drawn f) (hg : Drawn g) : gOwn "Term" gSub G_Term___sub__ G_Term___rsub__ (termW f) (termW g) S = .ok (termW (.bin .less f g)) S := by
  have h1 := hf.dep
  have h2 := hg.dep
  exact own_ok (b := .less) (fits5 (by simp [LTm.dep]; omega))
theorem difference_ok (hf : Drawn f) (hg : Drawn g) : G_difference [termW f, termW g] S = .ok (termW (.bin .or (.bin .less f g) (.bin .less g f))) S := by
  have h1 := hf.dep
  have h2 := hg.dep
  have a := fun T => less_ok (S := T) hf hg
  have b := fun T => less_ok (S := T) hg hf
  have o := fun T => own_ok (S := T) (b := .or) (base := fun _ _ _ => .bad) (f := .bin .less f g) (g := .bin .less g f) (fits5 (by simp [LTm.dep]; omega))
  have nd := fun T => need_ok (S := T) (i := 2 + max (LTm.dep f : Int) (LTm.dep g : Int)) (j := 1) (by omega) (by omega)
  have l2 : (2 : Nat) ≤ lim := by decide
  simp only [LTi.opG, LTi.opR] at o
  simp [G_difference, runB_eq, sh_difference, startW, methK_depth, depth_ok, gMax, intsW, nd, a, b, o, l2]
theorem rest_st (h : Dsg s) : G_Statement_rest [s.st] S = .ok (termW s.rest) S := by
  have a := fun T => less_ok (S := T) h.one h.two
  have b := fun T => difference_ok (S := T) h.one h.two
  have e : s.rest = match s.r with | .empty => s.f | .within => .bin .less s.f s.g | .equal => .bin .or (.bin .less s.f s.g) (.bin .less s.g s.f) := by
    obtain ⟨r, f, g⟩ := s
    cases r <;> rfl
  rw [e]
  cases hr : s.r <;> simp [G_Statement_rest, runB_eq, sh_Statement_rest, startW, l_empty, l_within, hr, a, b]
theorem law_rest_ok : G__law_rest [s.w] S = .ok (toW s.rest) S := by
  obtain ⟨r, f, g⟩ := s
  cases r <;> simp [G__law_rest, runB_eq, sh__law_rest, startW, Sg.w, l_empty, l_within, Sg.rest, toW, B.w]
theorem isi_st : gIsi (ktC "Statement") [s.st, .gl "Statement"] S = .ok (.bl true) S := by simp [gIsi, gIsi1, Sg.st, tyOf, isCls, ktC]
theorem isi_str2 (x : Str) : gIsi (ktC "Statement") [.str x, .gl "Statement"] S = .ok (.bl false) S := by simp [gIsi, gIsi1, tyOf, isCls, ktC]
theorem eq_st (h : Dsg s) (h' : Dsg s') : G_Statement___eq__ [s.st, s'.st] S = .ok (.bl (decide (s.txt = s'.txt))) S := by
  have t := fun T => text_st (S := T) h
  have t' := fun T => text_st (S := T) h'
  simp [G_Statement___eq__, runB_eq, sh_Statement___eq__, startW, isi_st, truW, m_text, t, t']
theorem eq_stS (x : Str) : G_Statement___eq__ [s.st, .str x] S = .ok (.bl false) S := by
  simp [G_Statement___eq__, runB_eq, sh_Statement___eq__, startW, isi_str2, truW]
theorem own_st {neg : Bool} (h : Dsg s) (h' : Dsg s') : gOwnEq "Statement" neg (gEq neg) G_Statement___eq__ s.st s'.st S = .ok (.bl (xorB neg (decide (s.txt = s'.txt)))) S := by
  unfold gOwnEq
  rw [if_pos isIns_st, if_pos (by rw [isIns_st]; rfl), eq_st h h']; rfl
theorem own_stS {neg : Bool} (x : Str) : gOwnEq "Statement" neg (gEq neg) G_Statement___eq__ s.st (.str x) S = .ok (.bl (xorB neg false)) S := by
  unfold gOwnEq
  rw [if_pos isIns_st, if_pos (by simp [isStr]), eq_stS]; rfl
theorem own_SS {neg : Bool} {x y : Str} : gOwnEq "Statement" neg (gEq neg) G_Statement___eq__ (.str x) (.str y) S = .ok (.bl (xorB neg (decide (x = y)))) S := rfl
end
end Dk09
end
section
set_option maxRecDepth 100000
set_option maxHeartbeats 4000000
namespace Dk09
open PySem PySem.Spec L2 RL OrdX
open LC
open LTm hiding G_Term___and__ G_Term___invert__ G_Term___or__ G_Term___rand__ G_Term___ror__ G_Term___rsub__ G_Term___sub__ G_Term_closed G_Term_of G_Term_opened G_Term_rim G__law_term G_joined joined1 joined2 of_name of_term opG opR sh_Term___and__ sh_Term___invert__ sh_Term___or__ sh_Term___rand__ sh_Term___ror__ sh_Term___rsub__ sh_Term___sub__ sh_Term_closed sh_Term_of sh_Term_opened sh_Term_rim sh__law_term sh_joined
open LTi
open PyProof.Rows hiding St
section
variable {f g : Form} {S : Store} {s s' : Sg}
/-- put, each with True -/
noncomputable def putAll (d : KW) (xs : List Str) : KW := xs.foldl (fun d x => putW d (.inr x) (.bl true)) d
theorem ks_putAll : ∀ (xs : List Str) {d : KW} {A : List Str}, Ks d A → ∃ B, Ks (putAll d xs) B ∧ (∀ x, x ∈ B ↔ x ∈ xs ∨ x ∈ A) ∧ B.length = xs.length + A.length
  | [], d, A, h => ⟨A, h, fun x => by simp, by simp⟩
  | y :: r, d, A, h => by
    obtain ⟨B, h1, h2, h3⟩ := ks_putAll r (h.put y (.bl true))
    refine ⟨B, h1, fun x => ?_, by rw [h3]; simp; omega⟩
    rw [h2, List.mem_cons, List.mem_cons]
    constructor
    · rintro (a | a | a)
      · exact .inl (.inr a)
      · exact .inl (.inl a)
      · exact .inr a
    · rintro ((a | a) | a)
      · exact .inr (.inl a)
      · exact .inl a
      · exact .inr (.inr a)
theorem dc_names {l : Nat} {xs : List Str} {a b c : Option W} (h : lstAt S l = some (xs.map W.str)) : ∀ (n i : Nat) (d : KW), xs.length - i < n → d.length + (xs.length - i) < lim → mDcN (gNm 3) mYes (mVar 3) (mC (.bl true)) [a, b, c, none] (nxL l) n i d S = .ok (putAll d (xs.drop i)) S
  | 0, i, d, hn, _ => absurd hn (Nat.not_lt_zero _)
  | n + 1, i, d, hn, hz => by
    unfold mDcN
    rcases Nat.lt_or_ge i xs.length with hi | hi
    · have e : nxL l i S = some (some (.str xs[i])) := by simp [nxL, h, hi]
      rw [e]
      have hd : d.length < lim := by omega
      have hp : (putW d (.inr xs[i]) (.bl true)).length ≤ d.length + 1 := by
        unfold putW
        split <;> simp
      have ih := dc_names (a := a) (b := b) (c := c) h n (i + 1) (putW d (.inr xs[i]) (.bl true)) (by omega) (by omega)
      have e2 : putAll d (xs.drop i) = putAll (putW d (.inr xs[i]) (.bl true)) (xs.drop (i + 1)) := by
        rw [List.drop_eq_getElem_cons hi]; rfl
      rw [e2]
      simp [mDcT, keyW, hd]
      exact ih
    · have e : nxL l i S = some none := by
        have : xs.length ≤ i := hi
        simp [nxL, h, this]
      rw [e, List.drop_eq_nil_of_le hi]; rfl
theorem upd_nm {o : Option W} {l : Nat} {d : KW} {A : List Str} (hl : S[l]? = some (dicO d)) (hd : Ks d A) (hsz : A.length ≤ 100) (hf : Drawn f) :
    Ev (mExpr (gMetD gDUpd (mVar 1) (mCons (mDc (mItems (mMeth "Term" "names" G_Term_names (mVar 2) mNil)) [3] (gNm 3) mYes (mVar 3) (mC (.bl true))) mNil)) [o, some (.ref l), some (termW f), none] S) fun p T => p = (.nx, [o, some (.ref l), some (termW f), none]) ∧ (∃ d' B, T[l]? = some (dicO d') ∧ Ks d' (A ++ B) ∧ (∀ x, x ∈ B ↔ x ∈ NM f) ∧ B.length ≤ 8) ∧ Keep l S T := by
  have hl' := get_len hl
  simp [metDK, dicAt_ref, dicO_at hl, mDc, methK_names, wipeW]
  refine (names_ok (by have := hf.dep; omega)).mono ?_
  rintro v T ⟨l2, rfl, h2, h3, h4⟩
  have hnl : (usrt ltS (NM f)).length ≤ 8 := Nat.le_trans (usrt_le _) hf.nms
  have hlim : lim = 16777216 := rfl
  have dc := dc_names (a := o) (b := some (.ref l)) (c := some (termW f)) h3 turns 0 [] (by have : turns = 100000 := rfl; omega) (by simp; omega)
  rw [List.drop_zero] at dc
  obtain ⟨B, k1, k2, k3⟩ := ks_putAll (usrt ltS (NM f)) Ks.nil
  have e1 : dicL T l = some d := dicO_at (by rw [h4.at_ l hl']; exact hl)
  have hT : l < T.length := Nat.lt_of_lt_of_le hl' h4.len
  have hle : d.length + (putAll [] (usrt ltS (NM f))).length ≤ lim := by
    have := hd.len; have := k1.len
    simp at k3; omega
  have hne : isRefTo l (dicT (putAll [] (usrt ltS (NM f)))) = false := rfl
  simp [h3, mDcI, dc, gDUpd, e1, hne, hle]
  exact ⟨⟨_, List.getElem?_set_self hT, B, hd.merge k1, fun x => by rw [k2, mem_usrt totS]; simp, by rw [k3]; simpa using hnl⟩, (h4.le (Nat.le_of_lt hl')).trans (Keep.set (Nat.le_refl _) (hd.merge k1).obj)⟩
theorem terms_ok : G_Statement_terms [s.st] S = .ok (.lst (s.forms.map termW)) S := by
  have l1 : (1 : Nat) ≤ lim := by decide
  have l2 : (2 : Nat) ≤ lim := by decide
  have i1 : isNonW .non = true := rfl
  have i2 : isNonW (termW s.g) = false := rfl
  by_cases hr : s.r = .empty
  · simp [G_Statement_terms, runB_eq, sh_Statement_terms, startW, hr, Sg.forms, l1, i1]
  · simp [G_Statement_terms, runB_eq, sh_Statement_terms, startW, hr, Sg.forms, l2, i2]
theorem st_names (h : Dsg s) : Ev (G_Statement_names [s.st] S) fun v T => ∃ l, v = .ref l ∧ S.length ≤ l ∧ lstAt T l = some ((usrt ltS (NMs s.forms)).map W.str) ∧ Keep S.length S T := by
  have fin : ∀ {d : KW} {A : List Str} {T : Store} {o1 o2 : Option W}, T[S.length]? = some (dicO d) → Ks d A → (∀ x, x ∈ A ↔ x ∈ NMs s.forms) → A.length ≤ 16 → Keep S.length S T →
      Ev ((mRet (mAp (g1 gSrtSR) (mCons (mAp (g1 gListD) (mCons (mVar 1) mNil)) mNil))) [o1, some (.ref S.length), o2, none] T) fun p T2 => ∃ l, p.1 = .rt (.ref l) ∧ S.length ≤ l ∧ lstAt T2 l = some ((usrt ltS (NMs s.forms)).map W.str) ∧ Keep S.length S T2 := by
    intro d A T o1 o2 h1 h2 h3 h4 kp
    obtain ⟨xs, e1, e2, e3, e4, _⟩ := listD_ok h1 h2
    have h64 : xs.length < 64 := by omega
    have hT := kp.len
    have hx : srt ltS xs = usrt ltS (NMs s.forms) := srt_usrt e2 fun x => (e3 x).trans (h3 x)
    simp [e1, gSrtSR, strsW_str, h64, hx]
    refine ⟨hT, ?_, kp.trans (Keep.push hT (no_strs _))⟩
    simp [lstAt]
  simp [-mExpr_eq, -mRet_eq, G_Statement_names, runB_eq, sh_Statement_names, startW, mDNewR, m_terms, terms_ok]
  by_cases hr : s.r = .empty
  · simp [-mExpr_eq, -mRet_eq, Sg.forms, hr, mForL]
    refine (upd_nm (S := S ++ [dicO []]) (o := some s.st) (by simp) Ks.nil (by simp) h.one).mono ?_
    rintro p T ⟨rfl, ⟨d', B, h1, h2, h3, h4⟩, h5⟩
    simp [-mRet_eq]
    have hfm : s.forms = [s.f] := by simp [Sg.forms, hr]
    rw [hfm] at fin
    refine (fin h1 h2 (fun x => by rw [List.nil_append, h3]; simp [NMs]) (by simp; omega) ((Keep.push (Nat.le_refl _)).trans (h5.le (Nat.le_refl _)))).mono ?_
    rintro ⟨fl, e⟩ T2 ⟨l, hp, q⟩
    cases (show fl = .rt (.ref l) from hp)
    simp
    exact q
  · simp [-mExpr_eq, -mRet_eq, Sg.forms, hr, mForL]
    refine (upd_nm (S := S ++ [dicO []]) (o := some s.st) (by simp) Ks.nil (by simp) h.one).mono ?_
    rintro p T ⟨rfl, ⟨d', B, h1, h2, h3, h4⟩, h5⟩
    simp [-mExpr_eq, -mRet_eq]
    refine (upd_nm (S := T) (o := some s.st) h1 h2 (by simp; omega) h.two).mono ?_
    rintro p T2 ⟨rfl, ⟨d2, B2, g1, g2, g3, g4⟩, g5⟩
    simp [-mRet_eq]
    have hfm : s.forms = [s.f, s.g] := by simp [Sg.forms, hr]
    rw [hfm] at fin
    refine (fin g1 g2 (fun x => by rw [List.nil_append, List.mem_append, h3, g3]; simp [NMs]) (by simp; omega) (((Keep.push (Nat.le_refl _)).trans (h5.le (Nat.le_refl _))).trans g5)).mono ?_
    rintro ⟨fl, e⟩ T3 ⟨l, hp, q⟩
    cases (show fl = .rt (.ref l) from hp)
    simp
    exact q
end
end Dk09
end
section
set_option maxRecDepth 100000
set_option maxHeartbeats 4000000
namespace Dk09
open PySem PySem.Spec L2 RL OrdX
open LC
open LTm hiding G_Term___and__ G_Term___invert__ G_Term___or__ G_Term___rand__ G_Term___ror__ G_Term___rsub__ G_Term___sub__ G_Term_closed G_Term_of G_Term_opened G_Term_rim G__law_term G_joined joined1 joined2 of_name of_term opG opR sh_Term___and__ sh_Term___invert__ sh_Term___or__ sh_Term___rand__ sh_Term___ror__ sh_Term___rsub__ sh_Term___sub__ sh_Term_closed sh_Term_of sh_Term_opened sh_Term_rim sh__law_term sh_joined
open LTi
open PyProof.Rows hiding St
section
variable {f g : Form} {S : Store} {s s' : Sg}
/-! ### where a mark cannot begin -/
/-- p begins nowhere within a, what follows being r -/
noncomputable def Fre (p a r : List Nat) : Prop := ∀ u v, a = u ++ v → v ≠ [] → ¬ p <+: v ++ r
theorem Fre.nil {p r : List Nat} : Fre p [] r := fun u v e hv => by
  have := List.append_eq_nil_iff.mp e.symm
  exact absurd this.2 hv
theorem Fre.cons {p a r : List Nat} {c : Nat} (h : ¬ p <+: c :: (a ++ r)) (t : Fre p a r) : Fre p (c :: a) r := fun u v e hv => by
  cases u with
  | nil => rw [List.nil_append] at e; subst e; exact h
  | cons d u =>
    rw [List.cons_append, List.cons.injEq] at e
    exact t u v e.2 hv
theorem Fre.app {p r : List Nat} : ∀ {a b : List Nat}, Fre p a (b ++ r) → Fre p b r → Fre p (a ++ b) r
  | [], b, _, h => h
  | c :: a, b, h, t => .cons (by have := h [] (c :: a) rfl (by simp); simpa using this) (Fre.app (fun u v e hv => h (c :: u) v (by rw [e]; rfl) hv) t)
theorem Fre.lets {p z : List Nat} {d : Nat} (hp : p = 32 :: z) : ∀ {a r : List Nat}, (∀ c ∈ a, c ≠ 32) → Fre p a r
  | [], _, _ => .nil
  | c :: a, r, h => .cons (fun ⟨t, e⟩ => by subst hp; simp at e; exact h c List.mem_cons_self e.1.symm) (Fre.lets (d := d) hp fun x m => h x (List.mem_cons_of_mem _ m))
theorem let_no {x : List Nat} (h : ∀ c ∈ x, c ∈ lettersL) : ∀ c ∈ x, c ≠ 32 := fun c m z => by
  have := h c m; rw [z] at this; revert this; decide
/-- a mark of two kinds: a word between spaces; a sign that no text has -/
structure Mark (p z : List Nat) (c : Nat) : Prop where
  eq : p = 32 :: c :: z
  sg : ∀ b : B, c ≠ b.sign
  st : ∀ (g : Form) (r : List Nat), LTm.Good g → (∀ q, r ≠ 32 :: q) → Stop r → ¬ (c :: z) <+: txt g ++ r
theorem stop41 (r : List Nat) : Stop (41 :: r) := by show 41 ∉ lettersL; decide
theorem mark_free {p z : List Nat} {c : Nat} (M : Mark p z c) : ∀ (f : Form) (r : List Nat), LTm.Good f → Fre p (txt f) r
  | .all, r, _ => Fre.lets (d := 0) M.eq (let_no (wd_let .all))
  | .none, r, _ => Fre.lets (d := 0) M.eq (let_no (wd_let .none))
  | .name x, r, h => Fre.lets (d := 0) M.eq (let_no (nameL_let h).1)
  | .un u f, r, h => by
    by_cases hu : u = .not
    · subst hu
      show Fre p (126 :: txt f) r
      exact .cons (fun ⟨t, e⟩ => by rw [M.eq] at e; simp at e) (mark_free M f r h)
    · rw [txt_u hu]
      refine Fre.app (Fre.lets (d := 0) M.eq (let_no (wd_let _))) (.cons (fun ⟨t, e⟩ => by rw [M.eq] at e; simp at e) (Fre.app (mark_free M f _ h) (.cons (fun ⟨t, e⟩ => by rw [M.eq] at e; simp at e) .nil)))
  | .bin b f g, r, h => by
    rw [txt_b]
    refine .cons (fun ⟨t, e⟩ => by rw [M.eq] at e; simp at e) (Fre.app (mark_free M f _ h.1) (.cons (fun ⟨t, e⟩ => ?_) (.cons (fun ⟨t, e⟩ => ?_) (.cons (fun ⟨t, e⟩ => ?_) (Fre.app (mark_free M g _ h.2) (.cons (fun ⟨t, e⟩ => by rw [M.eq] at e; simp at e) .nil))))))
    · rw [M.eq] at e; simp at e; exact M.sg b e.1
    · rw [M.eq] at e; simp at e; cases b <;> simp [B.sign] at e
    · rw [M.eq] at e
      simp only [List.cons_append, List.append_assoc, List.cons.injEq, true_and, List.nil_append] at e
      exact M.st g (41 :: r) h.2 (fun q z => by cases z) (stop41 r) ⟨t, by simpa using e⟩
/-- no text begins with a word and a space -/
theorem word_st {w z : List Nat} (hw : ∀ c ∈ w, c ∈ lettersL) (h0 : w ≠ []) (g : Form) (r : List Nat) (hg : LTm.Good g) (hr : ∀ q, r ≠ 32 :: q) (hs : Stop r) : ¬ (w ++ 32 :: z) <+: txt g ++ r := fun ⟨t, e⟩ => by
  have e1 : lets (txt g ++ r) = w ∧ aft (txt g ++ r) = 32 :: (z ++ t) := by
    rw [← e, List.append_assoc]
    exact lets_app hw (by show 32 ∉ lettersL; decide)
  have key : ∀ x y, (∀ c ∈ x, c ∈ lettersL) → Stop y → txt g ++ r = x ++ y → y = 32 :: (z ++ t) := fun x y hx hy q => by
    have := (lets_app hx hy).2
    rw [← q, e1.2] at this
    exact this.symm
  obtain ⟨d, w', rfl⟩ := List.exists_cons_of_ne_nil h0
  have hd := hw d List.mem_cons_self
  cases g with
  | all => exact hr _ (key Wd.all.c r (wd_let _) hs rfl)
  | none => exact hr _ (key Wd.none.c r (wd_let _) hs rfl)
  | name x => exact hr _ (key x r (nameL_let hg).1 hs rfl)
  | un u g =>
    by_cases hu : u = .not
    · subst hu
      have q : (126 :: txt g) ++ r = (d :: w') ++ 32 :: z ++ t := e.symm
      simp at q
      rw [← q.1] at hd; revert hd; decide
    · have := key u.w.c (40 :: (txt g ++ [41] ++ r)) (wd_let _) (by show 40 ∉ lettersL; decide) (by rw [txt_u hu]; simp)
      cases this
  | bin b g1 g2 =>
    have q := e.symm
    rw [txt_b] at q
    simp at q
    rw [← q.1] at hd; revert hd; decide
theorem mark_within : Mark withinL [105, 116, 104, 105, 110, 32] 119 := ⟨rfl, fun b => by cases b <;> decide, fun g r hg hr hs => word_st (w := [119, 105, 116, 104, 105, 110]) (z := []) (by decide) (by decide) g r hg hr hs⟩
theorem mark_is : Mark emptyL [115, 32, 101, 109, 112, 116, 121] 105 := ⟨rfl, fun b => by cases b <;> decide, fun g r hg hr hs => word_st (w := [105, 115]) (z := [101, 109, 112, 116, 121]) (by decide) (by decide) g r hg hr hs⟩
theorem no61 : ∀ (g : Form) (r : List Nat), LTm.Good g → (∀ q, r ≠ 32 :: q) → Stop r → ¬ [61, 32] <+: txt g ++ r := fun g r hg hr hs ⟨t, e⟩ => by
  have first : ∀ x : List Nat, (∀ c ∈ x, c ∈ lettersL) → x ≠ [] → ∀ y, x ++ y ≠ [61, 32] ++ t := fun x hx h0 y q => by
    obtain ⟨d, w', rfl⟩ := List.exists_cons_of_ne_nil h0
    have hd := hx d List.mem_cons_self
    simp at q
    rw [q.1] at hd; revert hd; decide
  cases g with
  | all => exact first Wd.all.c (wd_let _) (by decide) r e.symm
  | none => exact first Wd.none.c (wd_let _) (by decide) r e.symm
  | name x => exact first x (nameL_let hg).1 (nameL_let hg).2.1 r e.symm
  | un u g =>
    by_cases hu : u = .not
    · subst hu
      have q : (126 :: txt g) ++ r = [61, 32] ++ t := e.symm
      simp at q
    · rw [txt_u hu] at e
      exact first u.w.c (wd_let _) (by cases u <;> decide) (40 :: (txt g ++ [41]) ++ r) (by rw [e]; simp)
  | bin b g1 g2 => rw [txt_b] at e; simp at e
theorem mark_eq : Mark equalL [32] 61 := ⟨rfl, fun b => by cases b <;> decide, no61⟩
/-! ### cut at a mark -/
theorem pre_iff {p l : List Nat} : TL.pre p l = true ↔ p <+: l := by
  unfold TL.pre
  rw [beq_iff_eq]
  exact ⟨fun e => ⟨l.drop p.length, by conv => rhs; rw [← List.take_append_drop p.length l, e]⟩, fun ⟨t, e⟩ => by rw [← e]; simp⟩
theorem par_cons {p acc r : List Nat} {c : Nat} : TL.par p acc (c :: r) = if TL.pre p (c :: r) = true then some (acc, (c :: r).drop p.length) else TL.par p (acc ++ [c]) r := rfl
theorem par_hit {p b : List Nat} (hp : p ≠ []) : ∀ (a acc : List Nat), Fre p a (p ++ b) → TL.par p acc (a ++ (p ++ b)) = some (acc ++ a, b)
  | [], acc, _ => by
    obtain ⟨c, z, rfl⟩ := List.exists_cons_of_ne_nil hp
    rw [List.nil_append, List.cons_append, par_cons, if_pos (pre_iff.mpr ⟨b, by simp⟩)]
    simp
  | c :: a, acc, h => by
    rw [List.cons_append, par_cons, if_neg (fun z => h [] (c :: a) rfl (by simp) (by simpa using pre_iff.mp z)), par_hit hp a (acc ++ [c]) fun u v e hv => h (c :: u) v (by rw [e]; rfl) hv]
    simp
theorem par_miss {p : List Nat} : ∀ (a acc : List Nat), Fre p a [] → TL.par p acc a = none
  | [], acc, _ => rfl
  | c :: a, acc, h => by
    rw [par_cons, if_neg (fun z => h [] (c :: a) rfl (by simp) (by simpa using pre_iff.mp z)), par_miss a (acc ++ [c]) fun u v e hv => h (c :: u) v (by rw [e]; rfl) hv]
theorem partn_hit {p a b : List Nat} (hp : p ≠ []) (h : Fre p a (p ++ b)) : Txt.partition (tx (a ++ (p ++ b))) (tx p) = (tx a, tx p, tx b) := by
  rw [TL.partition_par _ _ (by simpa using hp)]
  show (match TL.par (tx p).cps.toList [] (tx (a ++ (p ++ b))).cps.toList with | some (a, b) => _ | none => _) = _
  rw [tx_list, tx_list, par_hit hp a [] h]
  rfl
theorem partn_miss {p a : List Nat} (hp : p ≠ []) (h : Fre p a []) : Txt.partition (tx a) (tx p) = (tx a, Str.empty, Str.empty) := by
  rw [TL.partition_par _ _ (by simpa using hp)]
  show (match TL.par (tx p).cps.toList [] (tx a).cps.toList with | some (a, b) => _ | none => _) = _
  rw [tx_list, tx_list, par_miss a [] h]
theorem ends_tx {a b : List Nat} : Txt.endswith (tx a) (tx b) = decide (b <:+ a) := by
  unfold Txt.endswith
  rw [tx_len, tx_len, Bool.eq_iff_iff, Bool.and_eq_true, decide_eq_true_eq, decide_eq_true_eq]
  unfold PySem.Builtin.Str.subAt
  rw [tx_len, beq_iff_eq, Nat.zero_add]
  have q : ((tx a).cps.extract (a.length - b.length) (a.length - b.length + b.length) = (tx b).cps) ↔ (a.drop (a.length - b.length)).take b.length = b := by
    constructor
    · intro z
      have := congrArg Array.toList z
      simpa [tx, List.extract_eq_take_drop] using this
    · intro z
      apply Array.toList_inj.mp
      simpa [tx, List.extract_eq_take_drop] using z
  rw [q]
  constructor
  · rintro ⟨h1, e⟩
    rw [List.take_of_length_le (by rw [List.length_drop]; omega)] at e
    have := List.take_append_drop (a.length - b.length) a
    rw [e] at this
    exact ⟨_, this⟩
  · rintro ⟨t, rfl⟩
    exact ⟨by simp, by simp⟩
end
end Dk09
end
section
set_option maxRecDepth 100000
set_option maxHeartbeats 4000000
namespace Dk09
open PySem PySem.Spec L2 RL OrdX
open LC
open LTm hiding G_Term___and__ G_Term___invert__ G_Term___or__ G_Term___rand__ G_Term___ror__ G_Term___rsub__ G_Term___sub__ G_Term_closed G_Term_of G_Term_opened G_Term_rim G__law_term G_joined joined1 joined2 of_name of_term opG opR sh_Term___and__ sh_Term___invert__ sh_Term___or__ sh_Term___rand__ sh_Term___ror__ sh_Term___rsub__ sh_Term___sub__ sh_Term_closed sh_Term_of sh_Term_opened sh_Term_rim sh__law_term sh_joined
open LTi
open PyProof.Rows hiding St
section
variable {f g : Form} {S : Store} {s s' : Sg}
theorem good_of : ∀ {f : Form}, (∀ x, Sub (.name x) f → nameL x = true) → LTm.Good f
  | .all, _ => trivial
  | .none, _ => trivial
  | .name x, h => h x .self
  | .un u f, h => good_of (f := f) fun x m => h x (.un m)
  | .bin b f g, h => ⟨good_of fun x m => h x (.left m), good_of fun x m => h x (.right m)⟩
theorem Drawn.good (h : Drawn f) : LTm.Good f := good_of fun x m => (h.nm x m).1
theorem read_form (h : Drawn f) : ∃ R, noCloS R = true ∧ G_Term_read [.str (tx (LTm.txt f))] S = .ok (termW f) (S ++ R) := by
  have hl := h.len
  have hr := read_run (S := S) (a := LTm.txt f) (by omega)
  rw [read_round (n := 14) h.good (by have := h.dep; omega)] at hr
  exact hr
theorem fre_mid {p z mid m r : List Nat} {c k : Nat} (M : Mark p z c) (hm : mid = 32 :: k :: (m ++ [32])) (hk : k ≠ c) (h32 : ∀ x ∈ k :: m, x ≠ 32) (hg : LTm.Good g) : Fre p mid (LTm.txt g ++ []) := by
  subst hm
  refine .cons (fun ⟨t, e⟩ => ?_) ?_
  · rw [M.eq] at e; simp at e; exact hk e.1.symm
  · have : k :: (m ++ [32]) = (k :: m) ++ [32] := rfl
    rw [this]
    refine Fre.app (Fre.lets (d := 0) M.eq h32) (.cons (fun ⟨t, e⟩ => ?_) .nil)
    rw [M.eq] at e
    simp only [List.nil_append, List.cons_append, List.cons.injEq, true_and] at e
    exact M.st g [] hg (fun q z => by cases z) trivial ⟨t, by simpa using e⟩
theorem whole_free {p z mid m : List Nat} {c k : Nat} (M : Mark p z c) (hm : mid = 32 :: k :: (m ++ [32])) (hk : k ≠ c) (h32 : ∀ x ∈ k :: m, x ≠ 32) (hf : LTm.Good f) (hg : LTm.Good g) : Fre p (LTm.txt f ++ (mid ++ LTm.txt g)) [] := by
  refine Fre.app (mark_free M f _ hf) (Fre.app ?_ (mark_free M g _ hg))
  exact fre_mid (r := []) M hm hk h32 hg
theorem not_suffix {p a : List Nat} (hp : p ≠ []) (h : Fre p a []) : ¬ p <:+ a := fun ⟨t, e⟩ => h t p e.symm hp ⟨[], by simp⟩
theorem k_mid : k_MIDDLES.map W.str = [.str Rl3.within.s, .str Rl3.equal.s] := rfl
theorem look_w : c_MIDDLES.lookup Rl3.within.s = some (tx withinL) := by decide +kernel
theorem look_e : c_MIDDLES.lookup Rl3.equal.s = some (tx equalL) := by decide +kernel
theorem e_nil : Str.ofString "" = tx [] := lit_eq rfl
theorem gPartn_hit {p a b : List Nat} (hp : p ≠ []) (hl : (a ++ (p ++ b)).length ≤ lim) (h : Fre p a (p ++ b)) : gPartn (tx (a ++ (p ++ b))) (.str (tx p)) S = .ok (.tup [.str (tx a), .str (tx p), .str (tx b)]) S := by
  have h0 : ((tx p).length == 0) = false := by
    rw [tx_len, beq_eq_false_iff_ne]
    exact fun z => hp (List.length_eq_zero_iff.mp z)
  unfold gPartn
  dsimp only
  rw [if_pos ⟨h0, by rw [tx_len]; exact hl⟩, partn_hit hp h]; rfl
theorem gPartn_miss {p a : List Nat} (hp : p ≠ []) (hl : a.length ≤ lim) (h : Fre p a []) : gPartn (tx a) (.str (tx p)) S = .ok (.tup [.str (tx a), .str (tx []), .str (tx [])]) S := by
  have h0 : ((tx p).length == 0) = false := by
    rw [tx_len, beq_eq_false_iff_ne]
    exact fun z => hp (List.length_eq_zero_iff.mp z)
  unfold gPartn
  dsimp only
  rw [if_pos ⟨h0, by rw [tx_len]; exact hl⟩, partn_miss hp h]; rfl
theorem mM1_eq {g : Str → W → Store → Res W} {mo me : SM W} {e : Env'} : mM1 g mo me e S = (mo e S).bind fun o S1 => match o with
  | .str a => (me e S1).bind fun w S2 => g a w S2
  | _ => .bad := rfl
theorem no_two {R R' : Store} (h : noCloS R = true) (h' : noCloS R' = true) : noCloS (R ++ R') = true := by
  unfold noCloS at h h' ⊢
  rw [List.all_append, h, h']; rfl
theorem gt3 {e : Env'} {u v w : W} {T : Store} : gTp 3 (RL.gCons (gNm 2) (RL.gCons (gNm 3) (RL.gCons (gNm 4) RL.gNil))) (.tup [u, v, w]) e T = .ok (((e.set 2 (some u)).set 3 (some v)).set 4 (some w)) T := rfl
theorem mCDict_eq {tab : List (Str × Str)} {mi : SM W} {e : Env'} : mCDict tab mi e S = (mi e S).bind fun k S1 => match k with
  | .str z => match tab.lookup z with
    | some v => .ok (.str v) S1
    | none => .bad
  | _ => .bad := rfl
theorem read_st (h : Dsg s) : ∃ R, noCloS R = true ∧ G_Statement_read [.str (tx s.txt)] S = .ok s.st (S ++ R) := by
  have hl := h.len
  have hz : s.txt.length ≤ lim := lim_of (by omega)
  have gf := h.one.good
  have gg := h.two.good
  obtain ⟨r, f, g⟩ := s
  obtain ⟨h1, h2⟩ := h
  simp only at gf gg h1 h2
  cases r
  · obtain ⟨R, n1, hr⟩ := read_form (S := S) h1
    have ht : (Sg.mk .empty f g).txt = LTm.txt f ++ emptyL := by simp [Sg.txt, Sg.mid]
    rw [ht] at hz ⊢
    have he : gEnds (tx (LTm.txt f ++ emptyL)) (.str (tx emptyL)) S = .ok (.bl true) S := by
      unfold gEnds
      dsimp only
      rw [ends_tx, decide_eq_true (List.suffix_append _ _)]
    have l9 : emptyL.length = 9 := rfl
    have l9' : emptyL.length ≤ lim := by decide
    have hcut : cutS (tx (LTm.txt f ++ emptyL)) none (some (((LTm.txt f ++ emptyL).length : Int) - (emptyL.length : Int))) = tx (LTm.txt f) := by
      rw [cut_to (by rw [List.length_append]; omega)]
      rw [show (((LTm.txt f ++ emptyL).length : Int) - (emptyL.length : Int)).toNat = (LTm.txt f).length from by rw [List.length_append]; omega]
      simp
    have hsub : RL.gSub (.int ((LTm.txt f ++ emptyL).length : Int)) (.int (emptyL.length : Int)) S = .ok (.int (((LTm.txt f ++ emptyL).length : Int) - (emptyL.length : Int))) S := rfl
    refine ⟨R, n1, ?_⟩
    rw [G_Statement_read, runB_eq]
    simp only [sh_Statement_read, startW, List.map_cons, List.map_nil, List.length_cons, List.length_nil, List.replicate, List.cons_append, List.nil_append, mSeq_eq, mIf_eq, mNotT_eq, mTru_eq, mAp_eq, mCons_eq, mNil_eq, mVar_0, mVar_s, mC_eq, ok_bind, isi_str, truW, Bool.not_true, Bool.false_eq_true, if_false, mSkip_eq, seqK_nx, mM1_eq, empty_eq, he, if_true, mRet_eq, mSl_eq, mNoPart_eq, mPart_eq, mBin_eq, g1_eq, gLen_str, tx_len, hz, l9', hsub, gSl_str, hcut, hr, l_empty, make_st, runK_rt, seqK_rt]
    rfl
  · obtain ⟨R, n1, hr⟩ := read_form (S := S) h1
    obtain ⟨R2, n2, hr2⟩ := read_form (S := S ++ R) h2
    have ht : (Sg.mk .within f g).txt = LTm.txt f ++ (withinL ++ LTm.txt g) := by simp [Sg.txt, Sg.mid]
    rw [ht] at hz ⊢
    have he : gEnds (tx (LTm.txt f ++ (withinL ++ LTm.txt g))) (.str (tx emptyL)) S = .ok (.bl false) S := by
      unfold gEnds
      dsimp only
      rw [ends_tx, decide_eq_false (not_suffix (by decide) (whole_free (mid := withinL) mark_is (k := 119) (m := [105, 116, 104, 105, 110]) rfl (by decide) (by decide) gf gg))]
    have hp := gPartn_hit (S := S) (p := withinL) (a := LTm.txt f) (b := LTm.txt g) (by decide) hz (mark_free mark_within f _ gf)
    refine ⟨R ++ R2, no_two n1 n2, ?_⟩
    rw [G_Statement_read, runB_eq]
    simp only [sh_Statement_read, startW, List.map_cons, List.map_nil, List.length_cons, List.length_nil, List.replicate, List.cons_append, List.nil_append, mSeq_eq, mIf_eq, mNotT_eq, mTru_eq, mAp_eq, mCons_eq, mNil_eq, mVar_0, mVar_s, mC_eq, ok_bind, isi_str, truW, Bool.not_true, Bool.false_eq_true, if_false, mSkip_eq, seqK_nx, mM1_eq, empty_eq, he, if_true, mFor_eq, mWalkD, mForI_fix, k_mid, mForL]
    simp only [gNm_eq, ok_bind, List.set_cons_succ, List.set_cons_zero, mAsg_eq, mM1_eq, mVar_0, mVar_s, mCDict_eq, look_w, hp, gt3, seqK_nx, mIf_eq, mBT_eq, mC_eq, gEq_str, e_nil, tx_inj, xorB, asB_ok, if_true, decide_eq_false (show ¬ withinL = [] by decide), Bool.not_false, mRet_eq, mAp_eq, mCons_eq, mNil_eq, hr, hr2, make_st, runK_rt, seqK_rt]
    rw [List.append_assoc]; rfl
  · obtain ⟨R, n1, hr⟩ := read_form (S := S) h1
    obtain ⟨R2, n2, hr2⟩ := read_form (S := S ++ R) h2
    have ht : (Sg.mk .equal f g).txt = LTm.txt f ++ (equalL ++ LTm.txt g) := by simp [Sg.txt, Sg.mid]
    rw [ht] at hz ⊢
    have he : gEnds (tx (LTm.txt f ++ (equalL ++ LTm.txt g))) (.str (tx emptyL)) S = .ok (.bl false) S := by
      unfold gEnds
      dsimp only
      rw [ends_tx, decide_eq_false (not_suffix (by decide) (whole_free (mid := equalL) mark_is (k := 61) (m := []) rfl (by decide) (by decide) gf gg))]
    have hm := gPartn_miss (S := S) (p := withinL) (a := LTm.txt f ++ (equalL ++ LTm.txt g)) (by decide) hz (whole_free (mid := equalL) mark_within (k := 61) (m := []) rfl (by decide) (by decide) gf gg)
    have hp := gPartn_hit (S := S) (p := equalL) (a := LTm.txt f) (b := LTm.txt g) (by decide) hz (mark_free mark_eq f _ gf)
    refine ⟨R ++ R2, no_two n1 n2, ?_⟩
    rw [G_Statement_read, runB_eq]
    simp only [sh_Statement_read, startW, List.map_cons, List.map_nil, List.length_cons, List.length_nil, List.replicate, List.cons_append, List.nil_append, mSeq_eq, mIf_eq, mNotT_eq, mTru_eq, mAp_eq, mCons_eq, mNil_eq, mVar_0, mVar_s, mC_eq, ok_bind, isi_str, truW, Bool.not_true, Bool.false_eq_true, if_false, mSkip_eq, seqK_nx, mM1_eq, empty_eq, he, if_true, mFor_eq, mWalkD, mForI_fix, k_mid, mForL]
    simp only [gNm_eq, ok_bind, List.set_cons_succ, List.set_cons_zero, mAsg_eq, mM1_eq, mVar_0, mVar_s, mCDict_eq, look_w, look_e, hm, hp, gt3, seqK_nx, mIf_eq, mBT_eq, mC_eq, gEq_str, e_nil, tx_inj, xorB, asB_ok, if_true, decide_eq_false (show ¬ equalL = [] by decide), decide_true, Bool.not_true, Bool.false_eq_true, if_false, mSkip_eq, Bool.not_false, mRet_eq, mAp_eq, mCons_eq, mNil_eq, hr, hr2, make_st, runK_rt, seqK_rt]
    rw [List.append_assoc]; rfl
end
end Dk09
end
section
set_option maxRecDepth 100000
set_option maxHeartbeats 4000000
namespace Dk09
open PySem PySem.Spec L2 RL OrdX
open LC
open LTm hiding G_Term___and__ G_Term___invert__ G_Term___or__ G_Term___rand__ G_Term___ror__ G_Term___rsub__ G_Term___sub__ G_Term_closed G_Term_of G_Term_opened G_Term_rim G__law_term G_joined joined1 joined2 of_name of_term opG opR sh_Term___and__ sh_Term___invert__ sh_Term___or__ sh_Term___rand__ sh_Term___ror__ sh_Term___rsub__ sh_Term___sub__ sh_Term_closed sh_Term_of sh_Term_opened sh_Term_rim sh__law_term sh_joined
open LTi
open PyProof.Rows hiding St
section
variable {f g : Form} {S : Store} {s s' : Sg}
/-! ### wrong terms -/
noncomputable abbrev exnT (w : W) : W := .exn "InvalidTerm" ["value", "code"] [w, .str "InvalidTerm"]
noncomputable abbrev excT {α : Type} (w : W) (S : Store) : Res α := .exc "InvalidTerm" ["value", "code"] [w, .str "InvalidTerm"] S
theorem makeT {w : W} : gMakeX "InvalidTerm" p_InvalidTerm l_InvalidTerm [w] S = .ok (exnT w) S := by rfl
structure Bad (w : W) : Prop where
  no : noClo w = true
  pl : plainW 8 w = true
  of : ∀ S, G_Term_of [w] S = excT w S
theorem bad_mk {w : W} (h0 : noClo w = true) (h1 : plainW 8 w = true) (h2 : ∀ S, gIsi (ktC "Term") [w, .gl "Term"] S = .ok (.bl false) S) (h3 : ∀ S, G_is_name [w] S = .ok (.bl false) S) : Bad w := ⟨h0, h1, fun S => by
  simp [G_Term_of, runB_eq, sh_Term_of, startW, h2, h3, truW, mRaise, makeT]⟩
noncomputable def badsW : List W := [.non, .int 3, .str "A", .str "", .str "(b | c)", .bl true, .tup [.str "b"]]
theorem bad_str {x : String} {a : List Nat} (e : x.toList.map Char.toNat = a) (h : nameL a = false) (hl : a.length ≤ lim) : Bad (.str (Str.ofString x)) := bad_mk rfl rfl (fun S => isi_str' _) fun S => by
  rw [lit_eq e, is_name_tx hl, h]
theorem bads : ∀ w ∈ badsW, Bad w := by
  intro w hw
  simp [badsW] at hw
  rcases hw with rfl | rfl | rfl | rfl | rfl | rfl | rfl
  · exact bad_mk rfl rfl (fun S => rfl) fun S => is_name_no (t := "NoneType") rfl rfl
  · exact bad_mk rfl rfl (fun S => rfl) fun S => is_name_no (t := "int") rfl rfl
  · exact bad_str (a := [65]) (by decide +kernel) (by decide +kernel) (by decide)
  · exact bad_str (a := []) (by decide +kernel) (by decide +kernel) (by decide)
  · exact bad_str (a := [40, 98, 32, 124, 32, 99, 41]) (by decide +kernel) (by decide +kernel) (by decide)
  · exact bad_mk rfl rfl (fun S => rfl) fun S => is_name_no (t := "bool") rfl rfl
  · exact bad_mk rfl rfl (fun S => rfl) fun S => is_name_no (t := "tuple") rfl rfl
theorem codeT {w : W} : gXFld cs_code "code" (exnT w) S = .ok (.str "InvalidTerm") S := by kernel_rfl
theorem extraT {w : W} : G__law_extra [exnT w] S = .ok w S := by kernel_rfl
theorem kxT : List.lookup (Str.ofString "InvalidTerm") kx_tab = some true := by decide +kernel
theorem why_ok {j : Nat} {ws : List W} {v : W} (n1 : noClos ws = true) (n2 : noCloS S = true) (h : F_clo j ws S = .ok v S) : G__law_why [.clo j ws] S = .ok (.tup [.str "value", v]) S := by
  simp [G__law_why, runB_eq, startW, sh__law_why, mTryT, mAct, n1, n2, h]
theorem why_bad {j : Nat} {ws : List W} {w : W} (n1 : noClos ws = true) (n2 : noCloS S = true) (h : F_clo j ws S = excT w S) : G__law_why [.clo j ws] S = .ok (.tup [.str "InvalidTerm", w]) S := by
  simp [G__law_why, runB_eq, startW, sh__law_why, mTryT, mAct, n1, n2, h, kxT, codeT, extraT]
theorem lam0 {w : W} (b : Bad w) : F_clo 0 [w] S = excT w S := by
  show G_lam0 [w] S = _
  simp [G_lam0, runL, sh_lam0, startL, G_Statement_empty, runB_eq, sh_Statement_empty, startW, b.of]
theorem lam1 {w : W} (b : Bad w) : F_clo 1 [w] S = excT w S := by
  show G_lam1 [w] S = _
  simp [G_lam1, runL, sh_lam1, startL, G_Statement_within, runB_eq, sh_Statement_within, startW, b.of]
theorem lam2 {w : W} {x : List Nat} {r : List W} (b : Bad w) (hx : nameL x = true) (h6 : x.length ≤ lim) : F_clo 2 [w, .lst (.str (tx x) :: r)] S = excT w S := by
  show G_lam2 [w, _] S = _
  have h := of_name (S := S) hx h6
  simp [G_lam2, runL, sh_lam2, startL, G_Statement_within, runB_eq, sh_Statement_within, startW, b.of, h]
theorem lam3 {w : W} (b : Bad w) : F_clo 3 [w] S = excT w S := by
  show G_lam3 [w] S = _
  have hp : pIdx [0, 1] [w, w] = [w, w] := rfl
  simp [G_lam3, runL, sh_lam3, startL, G_Statement_equal, runB_eq, sh_Statement_equal, startW, b.of, hp]
theorem lam4 {w : W} {x : List Nat} {r : List W} (b : Bad w) (hx : nameL x = true) (h6 : x.length ≤ lim) : F_clo 4 [w, .lst (.str (tx x) :: r)] S = excT w S := by
  show G_lam4 [w, _] S = _
  have h := of_name (S := S) hx h6
  simp [G_lam4, runL, sh_lam4, startL, G_Statement_equal, runB_eq, sh_Statement_equal, startW, b.of, h]
theorem lam5 {x : List Nat} {r : List W} (hx : nameL x = true) (h6 : x.length ≤ 6) : F_clo 5 [.lst (.str (tx x) :: r)] S = .ok (.str (tx (x ++ emptyL))) S := by
  show G_lam5 [_] S = _
  have h := of_name (S := S) hx (lim_of (by omega))
  have hd : Drawn (.name x) := ⟨fun y m => (by cases m; exact ⟨hx, h6⟩), by simp [LTm.dep]⟩
  have ht := text_st (s := ⟨.empty, .name x, .all⟩) (S := S) ⟨hd, ⟨fun y m => (by cases m), by simp [LTm.dep]⟩⟩
  have hm := m_text (s := ⟨.empty, .name x, .all⟩) (S := S) (g := G_Statement_text) (mr := mNil) (e := startL L_5 [.lst (.str (tx x) :: r)])
  have he : G_Statement_empty [.str (tx x)] S = .ok (Sg.mk .empty (.name x) .all).st S := by
    simp [-gMake_eq, G_Statement_empty, runB_eq, sh_Statement_empty, startW, h, l_empty, make_st, Sg.st]
  have hp : ∀ w : W, pIdx [0] [w] = [w] := fun _ => rfl
  have e2 : (Sg.mk .empty (.name x) .all).txt = x ++ emptyL := by simp [Sg.txt, Sg.mid, LTm.txt]
  rw [e2] at ht
  have h0 : (mBin gIx (mVar 0) (mC (.int 0))) (startL L_5 [.lst (.str (tx x) :: r)]) S = .ok (.str (tx x)) S := by simp [startL]
  show (mMeth _ _ _ _ _) _ S = _
  rw [mMeth_eq, mCallK_eq]
  simp only [mNil_eq, mCons_eq, h0, ok_bind, List.nil_append, hp, he, hm, ht]
end
end Dk09
end
section
set_option maxRecDepth 100000
set_option maxHeartbeats 4000000
namespace Dk09
open PySem PySem.Spec L2 RL OrdX
open LC
open LTm hiding G_Term___and__ G_Term___invert__ G_Term___or__ G_Term___rand__ G_Term___ror__ G_Term___rsub__ G_Term___sub__ G_Term_closed G_Term_of G_Term_opened G_Term_rim G__law_term G_joined joined1 joined2 of_name of_term opG opR sh_Term___and__ sh_Term___invert__ sh_Term___or__ sh_Term___rand__ sh_Term___ror__ sh_Term___rsub__ sh_Term___sub__ sh_Term_closed sh_Term_of sh_Term_opened sh_Term_rim sh__law_term sh_joined
open LTi
open PyProof.Rows hiding St
section
variable {f g : Form} {S : Store} {s s' : Sg}
structure Stt (b : Bag) (T : Store) : Prop where
  t0 : T[0]? = some (.tab "law")
  bag : T[1]? = some b.ob
  ok : b.Ok
  no : noCloS T = true
theorem no_ints : ∀ ns : List Int, noClos (ns.map .int) = true
  | [] => rfl
  | n :: r => by simp [noClos, noClo, no_ints r]
theorem bag_no (b : Bag) : noCloO b.ob = true := by simp [Bag.ob, noCloO, noClos, noClo, no_ints]
theorem Stt.draw {b b' : Bag} {T : Store} (h : Stt b T) (hb : b'.Ok) : Stt b' (T.set 1 b'.ob) :=
  ⟨by rw [List.getElem?_set_ne (by decide)]; exact h.t0, List.getElem?_set_self (get_len h.bag), hb, (Keep.set (L := 0) (Nat.zero_le _) (bag_no b')).no h.no⟩
theorem Stt.push {b : Bag} {T R : Store} (h : Stt b T) (n : noCloS R = true) : Stt b (T ++ R) :=
  ⟨by rw [List.getElem?_append_left (get_len h.t0)]; exact h.t0, by rw [List.getElem?_append_left (get_len h.bag)]; exact h.bag, h.ok, no_two h.no n⟩
theorem Stt.keep {b : Bag} {T T2 : Store} (h : Stt b T) (k : Keep T.length T T2) : Stt b T2 :=
  ⟨by rw [k.at_ _ (get_len h.t0)]; exact h.t0, by rw [k.at_ _ (get_len h.bag)]; exact h.bag, h.ok, k.no h.no⟩
/-- a drawn saying -/
theorem ev_saying {nms : List (List Nat)} {Q : W → Store → Prop} {b : Bag} {T : Store} {d : Nat} (hne : nms ≠ []) (hnm : ∀ x ∈ nms, nameL x = true ∧ x.length ≤ 6) (hsz : nms.length < 1073741824) (hd : d ≤ 3) (h1 : 1 ≤ d) (st : Stt b T)
    (k : ∀ s b' T', Dsg s → Stt b' T' → Q s.w T') : Ev (G__law_saying [.ref 1, .lst (nms.map fun a => .str (tx a)), .int d] T) Q := by
  have l4 : (4 : Nat) ≤ lim := by decide
  have l3 : (3 : Nat) ≤ lim := by decide
  have form : ∀ (b : Bag) (T : Store) (Q : W → Store → Prop), Stt b T → (∀ f b' T', Drawn f → Stt b' T' → Q (toW f) T') → Ev (G__law_form 10 [.ref 1, .lst (nms.map fun a => .str (tx a)), .int d] T) Q := fun b T Q st k =>
    ev_form hne (fun x m => (hnm x m).1) hsz 10 d T b Q (by decide) (by omega) st.bag st.ok fun f b' hf1 hf2 hb => k f b' _ ⟨fun x m => hnm x (hf2 x m), by omega⟩ (st.draw hb)
  have words : ([Rl3.empty, .within, .equal, .within].map fun r => W.str r.s) = [.str "empty", .str "within", .str "equal", .str "within"] := rfl
  generalize hw : (W.lst (nms.map fun a => W.str (tx a))) = w at form ⊢
  simp only [G__law_saying, runB_eq, sh__law_saying, startW, List.map_cons, List.map_nil, List.length_cons, List.length_nil, List.replicate, List.cons_append, List.nil_append, mSeq_eq, mPar_eq, mCons_eq, mAp_eq, mVar_0, mVar_s, mC_eq, mNil_eq, ok_bind, gLst_eq, Nat.zero_add, Nat.reduceAdd, l4, if_true, ev_bind]
  refine ev_one (ws := [Rl3.empty, .within, .equal, .within].map fun r => W.str r.s) (.inl rfl) st.bag st.ok (by decide) (by decide) fun u b1 hu hb1 => ?_
  have st1 := st.draw hb1
  generalize T.set 1 b1.ob = T1 at st1 ⊢
  obtain ⟨r, _, rfl⟩ := List.mem_map.mp hu
  simp only [ev_ok, ev_bind]
  refine form b1 T1 _ st1 fun f b2 T2 hf st2 => ?_
  simp only [ev_ok, parK_eq, List.set_cons_succ, List.set_cons_zero, seqK_nx, mRet_eq, mAp_eq, mCons_eq, mVar_0, mVar_s, ok_bind, mIfE_eq, mBT_eq, mC_eq, l_empty, gEq_str, r_inj, xorB, asB_ok, ev_bind, mNil_eq]
  by_cases hr : r = .empty
  · simp only [hr, decide_true, Bool.false_eq_true, if_false, if_true, ev_ok, gTup_eq, List.length_cons, List.length_nil, Nat.zero_add, Nat.reduceAdd, l3, runK_rt]
    exact k ⟨.empty, f, .all⟩ b2 T2 ⟨hf, ⟨fun y m => (by cases m), by simp [LTm.dep]⟩⟩ st2
  · simp only [hr, decide_false, Bool.false_eq_true, if_false, ev_ok, ev_bind]
    refine form b2 T2 _ st2 fun g b3 T3 hg st3 => ?_
    simp only [ev_ok, gTup_eq, List.length_cons, List.length_nil, Nat.zero_add, Nat.reduceAdd, l3, if_true, runK_rt]
    have := k ⟨r, f, g⟩ b3 T3 ⟨hf, hg⟩ st3
    simp only [Sg.w, hr, if_false] at this
    exact this
end
end Dk09
end
section
set_option maxRecDepth 100000
set_option maxHeartbeats 4000000
namespace Dk09
open PySem PySem.Spec L2 RL OrdX
open LC
open LTm hiding G_Term___and__ G_Term___invert__ G_Term___or__ G_Term___rand__ G_Term___ror__ G_Term___rsub__ G_Term___sub__ G_Term_closed G_Term_of G_Term_opened G_Term_rim G__law_term G_joined joined1 joined2 of_name of_term opG opR sh_Term___and__ sh_Term___invert__ sh_Term___or__ sh_Term___rand__ sh_Term___ror__ sh_Term___rsub__ sh_Term___sub__ sh_Term_closed sh_Term_of sh_Term_opened sh_Term_rim sh__law_term sh_joined
open LTi
open PyProof.Rows hiding St
section
variable {f g : Form} {S : Store} {s s' : Sg}
noncomputable def othW (s : Sg) : W := if s.r = .empty then .non else .str (tx (LTm.txt s.g))
theorem forms_ok {e : Env'} (h10 : mVar 10 e S = .ok s.w S) (hw : wipeW e [16] = e.set 16 none) (h16 : ∀ w : W, mVar 16 ((e.set 16 none).set 16 (some w)) S = .ok w S) : mLc (mItems (mSl (mVar 10) (mPart (mC (.int 1))) mNoPart)) [16] (gNm 16) (mBT (gIs true) (mVar 16) (mC .non)) (mVar 16) e S = .ok (.lst (s.forms.map toW)) S := by
  have hc : ∀ a b c : W, cutW [a, b, c] (some 1) none = [b, c] := fun _ _ _ => rfl
  have i1 : isNonW .non = true := rfl
  have i2 : ∀ f : Form, isNonW (toW f) = false := fun f => by cases f <;> rfl
  have l0 : (0 : Nat) < lim := by decide
  have l1 : (1 : Nat) < lim := by decide
  have h16' : ∀ w : W, mVar 16 (e.set 16 (some w)) S = .ok w S := fun w => by have := h16 w; rwa [List.set_set] at this
  by_cases hr : s.r = .empty
  · simp [mLc_eq, h10, Sg.w, hr, hc, hw, h16', Sg.forms, i1, i2, l0]
  · simp [mLc_eq, h10, Sg.w, hr, hc, hw, h16', Sg.forms, i2, l0, l1]
theorem plain0 (ns : List Int) (hns : ns.length ≤ 63) : Ev (runB 17 sh_law [.flst (ns.map W.int)] [.tab "law"]) fun v T => v = .bl true ∧ noCloS T = true := by
  obtain ⟨b, hb, ec⟩ := cells_ok (S := [.tab "law"]) hns
  generalize W.flst (ns.map W.int) = sc at ec ⊢
  have ok5 : okR 5 = true := by decide
  have hlim : lim = 16777216 := rfl
  have st0 : Stt b [.tab "law", b.ob] := ⟨rfl, rfl, hb, by
    unfold noCloS
    rw [List.all_cons, List.all_cons, bag_no]; rfl⟩
  simp only [sh_law, runB_eq, startW, mSeq_eq, mAsg_eq, mAp_eq, mCons_eq, mNil_eq, mVar_0, mVar_s, mC_eq, ok_bind, ec, gNm_eq, ev_bind, ev_ok, List.map_cons, List.map_nil, List.length_cons, List.length_nil, List.replicate, List.cons_append, List.nil_append, List.set_cons_succ, List.set_cons_zero, seqK_nx, Nat.zero_add, Nat.reduceAdd]
  refine ev_words (by decide) st0.bag hb fun ws b1 hw hb1 => ?_
  have st1 := st0.draw hb1
  generalize [Ob.tab "law", b.ob].set 1 b1.ob = T1 at st1 ⊢
  have hnm := words_name hw
  have hlen := words_len hw
  have hne : ws ≠ [] := fun z => by rw [z] at hlen; cases hlen
  simp only [ev_ok, seqK_nx, mSeq_eq, mFor_eq, mRange1_eq, mCons_eq, mNil_eq, mC_eq, ok_bind, rng1_eq, ok5, if_true, ev_bind, mForI_fix]
  refine Ev.mono (forL_ev (fun r e T => ∃ b o3 o6 o7 o8 o9 o10 o11 o12 o13 o14 o15, Stt b T ∧ e = [some sc, some (.ref 1), some (.lst (ws.map fun a => W.str (tx a))), o3, none, none, o6, o7, o8, o9, o10, o11, o12, o13, o14, o15, none]) ?_ _ _ _ ⟨b1, none, none, none, none, none, none, none, none, none, none, none, st1, rfl⟩) ?_
  · rintro u r e T ⟨b, o3, o6, o7, o8, o9, o10, o11, o12, o13, o14, o15, st, rfl⟩
    simp only [gNm_eq, ev_ok, List.set_cons_succ, List.set_cons_zero, mSeq_eq, mPar_eq, mCons_eq, mAp_eq, mVar_0, mVar_s, mNil_eq, mC_eq, ok_bind, ev_bind]
    refine ev_saying (d := 3) hne hnm (by rw [hlen]; decide) (by decide) (by decide) st fun s b2 T2 hs st2 => ?_
    refine ev_saying (d := 2) hne hnm (by rw [hlen]; decide) (by decide) (by decide) st2 fun s' b3 T3 hs' st3 => ?_
    have tm := fun T => saying_text_ok (S := T) hs
    have tm' := fun T => saying_text_ok (S := T) hs'
    have sm := fun T => statement_ok (S := T) hs
    have sm' := fun T => statement_ok (S := T) hs'
    simp only [ev_ok, ev_bind, parK_eq, List.set_cons_succ, List.set_cons_zero, seqK_nx, mSeq_eq, mPar_eq, mCons_eq, mAp_eq, mVar_0, mVar_s, mNil_eq, ok_bind, sm, tm, mAsg_eq]
    rw [forms_ok (s := s) rfl rfl fun _ => rfl]
    have pr1 : ∀ e T, mVar 12 e T = .ok s.st T → mProp "Statement" G_Statement_relation (mVar 12) e T = .ok (.str s.r.s) T := fun e T h => prop_st h rel_ok
    have pr2 : ∀ e T, mVar 12 e T = .ok s.st T → mProp "Statement" G_Statement_one (mVar 12) e T = .ok (termW s.f) T := fun e T h => prop_st h one_ok
    have pr3 : ∀ e T, mVar 12 e T = .ok s.st T → mProp "Statement" G_Statement_other (mVar 12) e T = .ok (if s.r = .empty then .non else termW s.g) T := fun e T h => prop_st h other_ok
    have tx1 := fun T => text_st (S := T) hs
    have tf := fun T => hs.one.text (S := T)
    have tg := fun T => hs.two.text (S := T)
    have oth : ∀ e T, mVar 12 e T = .ok s.st T → mIfE (mBT (gIs false) (mProp "Statement" G_Statement_other (mVar 12)) (mC .non)) (mC .non) (mMeth "Term" "text" G_Term_text (mProp "Statement" G_Statement_other (mVar 12)) mNil) e T = .ok (othW s) T := fun e T h => by
      have i1 : isNonW .non = true := rfl
      have i2 : isNonW (termW s.g) = false := rfl
      by_cases hr : s.r = .empty
      · simp [pr3 e T h, hr, othW, i1]
      · simp [pr3 e T h, hr, othW, i2, methK_text, tg]
    have str1 := fun T => str_st (S := T) hs
    have rep1 := fun T => repr_st (S := T) hs
    simp only [ok_bind, ev_ok, gNm_eq, List.set_cons_succ, List.set_cons_zero, seqK_nx, mSeq_eq, mAsg_eq, ev_bind, mAp_eq, mCons_eq, mMeth_eq, mVar_0, mVar_s, mNil_eq, m_text, tx1, g1_eq, str1, rep1]
    rw [pr1 _ _ rfl]
    simp only [ok_bind, ev_ok]
    rw [pr2 _ _ rfl]
    simp only [ok_bind, ev_ok, methK_text, mNil_eq, tf]
    rw [oth _ _ rfl]
    simp only [ok_bind, ev_ok, m_names, mNil_eq]
    refine (st_names hs).mono ?_
    rintro v T4 ⟨l, rfl, hl1, hl2, kp⟩
    have st4 := st3.keep kp
    obtain ⟨rd, rl⟩ := hs.restOk
    have rs := fun T => rest_st (S := T) hs
    have tr := fun T => text_ok (S := T) (f := s.rest) (by omega) (lim_of (by omega))
    have l8 : (8 : Nat) ≤ lim := by decide
    simp only [ok_bind, ev_ok, mVar_s, m_rest, mNil_eq, rs, methK_text, tr, gLst_eq, List.length_cons, List.length_nil, Nat.zero_add, Nat.reduceAdd, l8, if_true, gNm_eq, List.set_cons_succ, List.set_cons_zero, seqK_nx, mSeq_eq, mAsg_eq]
    have hsl := hs.len
    have g0 : ∀ T, gIx s.w (.int 0) T = .ok (.str s.r.s) T := fun T => by simp [Sg.w]
    have g1' : ∀ T, gIx s.w (.int 1) T = .ok (toW s.f) T := fun T => by simp [Sg.w]
    have lf := fun T => hs.one.ltext (S := T)
    have lg := fun T => hs.two.ltext (S := T)
    have oth2 : ∀ e T, mVar 10 e T = .ok s.w T → mIfE (mBT (gIs false) (mBin gIx (mVar 10) (mC (.int 2))) (mC .non)) (mC .non) (mAp (G__law_text 24) (mCons (mBin gIx (mVar 10) (mC (.int 2))) mNil)) e T = .ok (othW s) T := fun e T h => by
      have i1 : isNonW .non = true := rfl
      have i2 : ∀ f : Form, isNonW (toW f) = false := fun f => by cases f <;> rfl
      by_cases hr : s.r = .empty
      · simp [h, Sg.w, hr, othW, i1]
      · simp [h, Sg.w, hr, othW, i2, lg]
    have a1 : stL.length + s.txt.length ≤ lim := lim_of (by have : stL.length = 10 := rfl; omega)
    have a2 : (stL ++ s.txt).length + ([41] : List Nat).length ≤ lim := lim_of (by have : stL.length = 10 := rfl; simp; omega)
    have e41 : Str.ofString ")" = tx [41] := lit_eq rfl
    have l6 : (6 : Nat) ≤ lim := by decide
    have l2 : (2 : Nat) ≤ lim := by decide
    simp only [ev_bind, ev_ok, mVar_0, mVar_s, mBin_eq, mC_eq, ok_bind, e_st, e41, gAdd_str, tx_len, a1, a2, if_true, tx_cat, g0, g1', lf]
    rw [oth2 _ _ rfl]
    simp only [ev_bind, ev_ok, ok_bind, mVar_0, mVar_s, mNil_eq, gLst_eq, List.length_cons, List.length_nil, Nat.zero_add, Nat.reduceAdd, l6, if_true, gNm_eq, List.set_cons_succ, List.set_cons_zero, seqK_nx, mSeq_eq, mIf_eq, mNotT_eq, mTru_eq, mAp_eq, mCons_eq, mBin_eq]
    have hfd : ∀ k ∈ s.forms, LTm.dep k < 10 := fun k m => by
      have h1 := hs.one.dep; have h2 := hs.two.dep
      unfold Sg.forms at m
      split at m
      · simp at m; subst m; omega
      · simp at m; rcases m with rfl | rfl <;> omega
    have hfn : (NMs s.forms).length < 64 := by
      have h1 := hs.one.nms; have h2 := hs.two.nms
      unfold Sg.forms
      split <;> simp [NMs] <;> omega
    refine (names_in_ok 10 s.forms T4 (by decide) hfd hfn).mono ?_
    rintro v T5 ⟨rfl, kp5⟩
    have st5 := st4.keep kp5
    have lr := fun T => law_rest_ok (S := T) (s := s)
    have ltr := fun T => law_text_ok (S := T) s.rest 24 (by omega) (lim_of (by omega))
    have hl5 : lstAt T5 l = some ((usrt ltS (NMs s.forms)).map W.str) := lst_keep hl2 kp5
    simp only [ev_bind, ev_ok, ok_bind, mVar_0, mVar_s, lr, ltr, gLst_eq, List.length_cons, List.length_nil, Nat.zero_add, Nat.reduceAdd, l2, if_true, gAdd_lst, l8, List.cons_append, List.nil_append]
    have hus : (usrt ltS (NMs s.forms)).length < turns := by have := usrt_le (lt := ltS) (NMs s.forms); have : turns = 100000 := rfl; omega
    have same : G__law_same 10 [.lst [.str (tx s.txt), .str (tx s.txt), .str (tx (stL ++ s.txt ++ [41])), .str s.r.s, .str (tx (LTm.txt s.f)), othW s, .ref l, .str (tx (LTm.txt s.rest))], .lst [.str (tx s.txt), .str (tx s.txt), .str (tx (stL ++ s.txt ++ [41])), .str s.r.s, .str (tx (LTm.txt s.f)), othW s, .lst ((usrt ltS (NMs s.forms)).map W.str), .str (tx (LTm.txt s.rest))]] T5 = .ok (.bl true) T5 := by
      have ot : G__law_same 9 [othW s, othW s] T5 = .ok (.bl true) T5 := by
        unfold othW
        split
        · exact same_self 9 .non rfl T5
        · exact same_str
      refine same_lst (n := 9) rfl (by show 8 < turns; decide) fun i a b h1 h2 => ?_
      match i, h1, h2 with
      | 0, h1, h2 => cases h1; cases h2; exact same_str
      | 1, h1, h2 => cases h1; cases h2; exact same_str
      | 2, h1, h2 => cases h1; cases h2; exact same_str
      | 3, h1, h2 => cases h1; cases h2; exact same_str
      | 4, h1, h2 => cases h1; cases h2; exact same_str
      | 5, h1, h2 => cases h1; cases h2; exact ot
      | 6, h1, h2 => cases h1; cases h2; exact same_refS (n := 7) hl5 hus
      | 7, h1, h2 => cases h1; cases h2; exact same_str
      | n + 8, h1, h2 => cases h1
    have htru : ∀ T, truW T (.bl true) = some true := fun _ => rfl
    obtain ⟨R, n1, hr1⟩ := read_st (S := T5) hs
    have st6 := st5.push n1
    generalize T5 ++ R = T6 at hr1 st6
    obtain ⟨R2, n2, hr2⟩ := read_st (S := T6) hs
    have st7 := st6.push n2
    generalize T6 ++ R2 = T7 at hr2 st7
    have hp : ∀ w : W, pIdx [0] [w] = [w] := fun _ => rfl
    have o1 := own_st (S := T6) (neg := false) hs hs
    have o2 := fun T n => own_st (S := T) (neg := n) hs hs'
    have o3 := fun T => own_stS (S := T) (s := s) (neg := false) (tx s.txt)
    have l5 : (5 : Nat) ≤ lim := by decide
    simp only [same, ev_ok, htru, Bool.not_true, Bool.false_eq_true, if_false, mSkip_eq, seqK_nx, mSeq_eq, mPar_eq, mCons_eq, mBin_eq, mAp_eq, mVar_0, mVar_s, mNil_eq, ok_bind, tm', sm', own_SS, tx_inj, xorB, parK_eq, List.set_cons_succ, List.set_cons_zero, mAsg_eq, hr1, o1, mMeth_eq, mCallK_eq, List.nil_append, hp, hr2, m_text, tx1, o2, o3, gLst_eq, List.length_cons, List.length_nil, Nat.zero_add, Nat.reduceAdd, l5, if_true, gNm_eq, ev_bind, decide_true, mIf_eq, mNotT_eq, mTru_eq, mC_eq]
    have nv : ∀ e T (d : Bool), mVar 14 e T = .ok (.bl d) T → mNotV (mVar 14) e T = .ok (.bl (!d)) T := fun e T d h => by
      simp [mNotV, h, truW]
    rw [nv _ _ (decide (s.txt = s'.txt)) rfl]
    have same2 := same_self 10 (.lst [.bl true, .str (tx s.txt), .bl (decide (s.txt = s'.txt)), .bl !decide (s.txt = s'.txt), .bl false]) rfl T7
    simp only [ev_ok, same2, htru, Bool.not_true, Bool.false_eq_true, if_false, mSkip_eq, seqK_nx, mExpr_eq, ev_bind]
    have hu : ((usrt ltS (NMs s.forms)).map W.str).length < lim := by rw [List.length_map]; have := usrt_le (lt := ltS) (NMs s.forms); omega
    simp only [gMetL, ev_bind, mMeth_eq, mVar_0, mVar_s, ok_bind, m_names, mNil_eq]
    refine (st_names hs).mono ?_
    rintro v T8 ⟨l2, rfl, k1, k2, kp8⟩
    have st8 := st7.keep kp8
    simp only [k2, mCons_eq, mNil_eq, mC_eq, ok_bind, append_ok k2 hu, ev_ok]
    have st9 := st7.keep (kp8.trans (Keep.set (o := .lst ((usrt ltS (NMs s.forms)).map W.str ++ [.str "a"])) k1 (by
      have := no_strs (usrt ltS (NMs s.forms) ++ [("a" : Str)])
      rw [List.map_append] at this; exact this)))
    exact ⟨trivial, _, _, _, _, _, _, _, _, _, _, _, _, st9, rfl⟩
  · rintro p T ⟨hp, b, o3, o6, o7, o8, o9, o10, o11, o12, o13, o14, o15, st, he⟩
    obtain ⟨fl, e⟩ := p
    cases hp
    dsimp only at he
    subst he
    have l7 : (7 : Nat) ≤ lim := by decide
    simp only [seqK_nx, mSeq_eq, mAsg_eq, ev_bind, mAp_eq, mCons_eq, mVar_0, mVar_s, mNil_eq, mC_eq, ok_bind, gTup_eq, gLst_eq, List.length_cons, List.length_nil, Nat.zero_add, Nat.reduceAdd, l7, show (1 : Nat) ≤ lim by decide, if_true]
    refine ev_one (ws := badsW) (.inl rfl) st.bag st.ok (by decide) (by decide) fun w b2 hwb hb2 => ?_
    have st2 := st.draw hb2
    generalize T.set 1 b2.ob = T2 at st2 ⊢
    have B := bads w hwb
    obtain ⟨a0, r, rfl⟩ : ∃ a0 r, ws = a0 :: r := by
      cases ws with
      | nil => exact absurd rfl hne
      | cons a r => exact ⟨a, r, rfl⟩
    obtain ⟨h0, h06⟩ := hnm a0 List.mem_cons_self
    have lam : ∀ j e, mLam 0 "law" j e T2 = .ok (.lam j) T2 := fun j e => by simp [mLam, st2.t0]
    simp only [ev_ok, gNm_eq, List.set_cons_succ, List.set_cons_zero, seqK_nx, mSeq_eq, mAsg_eq, ev_bind, mAp_eq, mCons_eq, mNil_eq, lam, ok_bind, gLst_eq, List.length_cons, List.length_nil, Nat.zero_add, Nat.reduceAdd, show (6 : Nat) ≤ lim by decide, if_true, mRet_eq]
    have hN : noClo (.lst (.str (tx a0) :: r.map fun a => W.str (tx a))) = true := by
      show noClos (W.str (tx a0) :: r.map fun a => W.str (tx a)) = true
      have := no_strs (tx a0 :: r.map tx)
      simpa [Function.comp_def] using this
    have hl0 : a0.length ≤ lim := lim_of (by omega)
    have n1 : noClos [w] = true := by simp [noClos, B.no]
    have n2 : noClos [w, .lst (.str (tx a0) :: r.map fun a => W.str (tx a))] = true := by simp [noClos, B.no, hN]
    have n3 : noClos [W.lst (.str (tx a0) :: r.map fun a => W.str (tx a))] = true := by simp [noClos, hN]
    have w0 := why_bad (j := 0) n1 st2.no (lam0 B)
    have w1 := why_bad (j := 1) n1 st2.no (lam1 B)
    have w2 := why_bad (j := 2) n2 st2.no (lam2 B h0 hl0)
    have w3 := why_bad (j := 3) n1 st2.no (lam3 B)
    have w4 := why_bad (j := 4) n2 st2.no (lam4 B h0 hl0)
    have w5 := why_ok (j := 5) n3 st2.no (lam5 h0 h06)
    have hwy : G__law_whys [.lst [.clo 0 [w], .clo 1 [w], .clo 2 [w, .lst (.str (tx a0) :: r.map fun a => W.str (tx a))], .clo 3 [w], .clo 4 [w, .lst (.str (tx a0) :: r.map fun a => W.str (tx a))], .clo 5 [.lst (.str (tx a0) :: r.map fun a => W.str (tx a))]]] T2 = .ok (.lst [.tup [.str "InvalidTerm", w], .tup [.str "InvalidTerm", w], .tup [.str "InvalidTerm", w], .tup [.str "InvalidTerm", w], .tup [.str "InvalidTerm", w], .tup [.str "value", .str (tx (a0 ++ emptyL))]]) T2 := by
      have z : ∀ k : Nat, k ≤ 5 → k < lim := fun k hk => Nat.lt_of_le_of_lt hk (by decide)
      simp [G__law_whys, runB_eq, startW, sh__law_whys, wipeW, w0, w1, w2, w3, w4, w5, z 0, z 1, z 2, z 3, z 4, z 5]
    have hcall : ∀ e, mVar 5 e T2 = .ok (.lst [.lam 0, .lam 1, .lam 2, .lam 3, .lam 4, .lam 5]) T2 → e[4]? = some (some w) → e[2]? = some (some (.lst (.str (tx a0) :: r.map fun a => W.str (tx a)))) →
        mCallC [(0, [4]), (1, [4]), (2, [4, 2]), (3, [4]), (4, [4, 2]), (5, [2])] G__law_whys (mCons (mVar 5) mNil) e T2 = .ok (.lst [.tup [.str "InvalidTerm", w], .tup [.str "InvalidTerm", w], .tup [.str "InvalidTerm", w], .tup [.str "InvalidTerm", w], .tup [.str "InvalidTerm", w], .tup [.str "value", .str (tx (a0 ++ emptyL))]]) T2 := fun e e5 e4 e2 => by
      have q0 : List.lookup 0 [(0, [4]), (1, [4]), (2, [4, 2]), (3, [4]), (4, [4, 2]), (5, [2])] = some [4] := rfl
      have q1 : List.lookup 1 [(0, [4]), (1, [4]), (2, [4, 2]), (3, [4]), (4, [4, 2]), (5, [2])] = some [4] := rfl
      have q2 : List.lookup 2 [(0, [4]), (1, [4]), (2, [4, 2]), (3, [4]), (4, [4, 2]), (5, [2])] = some [4, 2] := rfl
      have q3 : List.lookup 3 [(0, [4]), (1, [4]), (2, [4, 2]), (3, [4]), (4, [4, 2]), (5, [2])] = some [4] := rfl
      have q4 : List.lookup 4 [(0, [4]), (1, [4]), (2, [4, 2]), (3, [4]), (4, [4, 2]), (5, [2])] = some [4, 2] := rfl
      have q5 : List.lookup 5 [(0, [4]), (1, [4]), (2, [4, 2]), (3, [4]), (4, [4, 2]), (5, [2])] = some [2] := rfl
      have hcl : closeAs [(0, [4]), (1, [4]), (2, [4, 2]), (3, [4]), (4, [4, 2]), (5, [2])] e [.lst [.lam 0, .lam 1, .lam 2, .lam 3, .lam 4, .lam 5]] = some [.lst [.clo 0 [w], .clo 1 [w], .clo 2 [w, .lst (.str (tx a0) :: r.map fun a => W.str (tx a))], .clo 3 [w], .clo 4 [w, .lst (.str (tx a0) :: r.map fun a => W.str (tx a))], .clo 5 [.lst (.str (tx a0) :: r.map fun a => W.str (tx a))]]] := by
        simp only [closeAs, closeA, closeL, closeW, q0, q1, q2, q3, q4, q5, slotsW, e4, e2, Option.map_some]
      have hno : ∀ x : Str, noClo (.tup [.str x, w]) = true := fun x => by
        show (true && (noClo w && true)) = true
        rw [B.no]; rfl
      unfold mCallC
      rw [mCons_eq, e5, ok_bind, mNil_eq, ok_bind, ok_bind, hcl]
      dsimp only
      rw [hwy]
      refine if_pos ⟨?_, st2.no⟩
      show (noClo _ && (noClo _ && (noClo _ && (noClo _ && (noClo _ && (true && true)))))) = true
      rw [hno]; rfl
    rw [hcall _ rfl rfl rfl]
    have hmul : gMul (.lst [.tup [.str "InvalidTerm", w]]) (.int 5) T2 = .ok (.lst [.tup [.str "InvalidTerm", w], .tup [.str "InvalidTerm", w], .tup [.str "InvalidTerm", w], .tup [.str "InvalidTerm", w], .tup [.str "InvalidTerm", w]]) T2 := by kernel_rfl
    have hsm := same_self 10 (.lst [.tup [.str "InvalidTerm", w], .tup [.str "InvalidTerm", w], .tup [.str "InvalidTerm", w], .tup [.str "InvalidTerm", w], .tup [.str "InvalidTerm", w], .tup [.str "value", .str (tx (a0 ++ emptyL))]]) (by
      have pt : plainW 9 (.tup [.str "InvalidTerm", w]) = true := by
        show (decide ((2 : Nat) ≤ lim) && (true && (plainW 8 w && true))) = true
        rw [B.pl]; decide
      show (decide ((6 : Nat) ≤ lim) && (plainW 9 _ && (plainW 9 _ && (plainW 9 _ && (plainW 9 _ && (plainW 9 _ && (plainW 9 (.tup [.str "value", .str (tx (a0 ++ emptyL))]) && true))))))) = true
      rw [pt]; rfl) T2
    have hix : gIx (.lst (List.map (fun a => W.str (tx a)) (a0 :: r))) (.int 0) T2 = .ok (.str (tx a0)) T2 := by simp
    have hcat : a0.length + emptyL.length ≤ lim := lim_of (by have : emptyL.length = 9 := rfl; omega)
    simp only [ev_ok, ev_bind, mBin_eq, mAp_eq, mCons_eq, mVar_0, mVar_s, mC_eq, mNil_eq, ok_bind, gTup_eq, gLst_eq, List.length_cons, List.length_nil, Nat.zero_add, Nat.reduceAdd, show (2 : Nat) ≤ lim by decide, show (1 : Nat) ≤ lim by decide, if_true, hmul, hix, e_emp, gAdd_str, tx_len, hcat, tx_cat, gAdd_lst, show (6 : Nat) ≤ lim by decide, List.cons_append, List.nil_append, hsm, runK_rt]
    exact ⟨trivial, st2.no⟩
/-- the law, in plain terms -/
theorem plain (ns : List Int) (hns : ns.length ≤ 63) : ∃ S, G_law [.flst (ns.map W.int)] [.tab "law"] = .ok (.bl true) S := by
  obtain ⟨v, T, e, rfl, n⟩ := plain0 ns hns
  refine ⟨T, ?_⟩
  unfold G_law runMk
  rw [if_pos ⟨by simp [noClos, noClo, no_ints], rfl⟩, e]
  exact if_pos ⟨rfl, n⟩
end
end Dk09
end
open PySem PySem.W PyProof.Rows
set_option maxRecDepth 100000 in
set_option maxHeartbeats 0 in
theorem PySem.Challenge.cw_unseenmap_k09_statements_holds : PySem.Challenge.rw_unseenmap_k09_statements.Holds := by
  w_on; o_law; k_head; (case hw => w_witness2)
  k_fill
  refine' RL.walk_lawT (k := 33) (x := "_law_script") (st := Dk09.s_law) (g := Dk09.G_law) [("law", 740, 738)] Dk09.plain (fun _ _ _ _ _ _ _ => rfl) rfl rfl ⟨rfl, by decide, by decide⟩ (fun w h Y => PySem.W.km_in_of Y) ?F
  case F =>
    intro w mg h Y KX G
    have tA0 := RL.tab_one (x := "law") (c := 740) (P := 738) KX G (by kernel_rfl)
    have cT_Reader : RL.ClsT _ mg "Reader" := RL.clsT_mk KX G (by k_is) (by k_is) (by k_is) (by k_is) (by k_is)
    have fT_Reader_source : RL.FldT _ mg "Reader" "source" := RL.fldT_mk KX G (by k_is) cT_Reader (by k_is)
    have fT_Reader_place : RL.FldT _ mg "Reader" "place" := RL.fldT_mk KX G (by k_is) cT_Reader (by k_is)
    have cT_Statement : RL.ClsT _ mg "Statement" := RL.clsT_mk KX G (by k_is) (by k_is) (by k_is) (by k_is) (by k_is)
    have fT_Statement_own_relation : RL.FldT _ mg "Statement" "own_relation" := RL.fldT_mk KX G (by k_is) cT_Statement (by k_is)
    have fT_Statement_own_one : RL.FldT _ mg "Statement" "own_one" := RL.fldT_mk KX G (by k_is) cT_Statement (by k_is)
    have fT_Statement_own_other : RL.FldT _ mg "Statement" "own_other" := RL.fldT_mk KX G (by k_is) cT_Statement (by k_is)
    have cT_Term : RL.ClsT _ mg "Term" := RL.clsT_mk KX G (by k_is) (by k_is) (by k_is) (by k_is) (by k_is)
    have fT_Term_node : RL.FldT _ mg "Term" "node" := RL.fldT_mk KX G (by k_is) cT_Term (by k_is)
    have fT_Term_deep : RL.FldT _ mg "Term" "deep" := RL.fldT_mk KX G (by k_is) cT_Term (by k_is)
    have fT_Term_part_count : RL.FldT _ mg "Term" "part_count" := RL.fldT_mk KX G (by k_is) cT_Term (by k_is)
    have xT_InvalidTerm : RL.XcT _ mg "InvalidTerm" := RL.xct_mk KX G (by k_is) (by k_is) (by k_is) (by k_is) (by k_is) (by k_is) (by k_is) (by k_is) (by k_is) (by k_is)
    have xT_InvalidText : RL.XcT _ mg "InvalidText" := RL.xct_mk KX G (by k_is) (by k_is) (by k_is) (by k_is) (by k_is) (by k_is) (by k_is) (by k_is) (by k_is) (by k_is)
    have T : Dk09.Txt w _ mg := {
      z_all := PySem.W.mg_none_of KX G (by k_is),
      z_bool := PySem.W.mg_none_of KX G (by k_is),
      z_int := PySem.W.mg_none_of KX G (by k_is),
      z_isinstance := PySem.W.mg_none_of KX G (by k_is),
      z_len := PySem.W.mg_none_of KX G (by k_is),
      z_list := PySem.W.mg_none_of KX G (by k_is),
      z_max := PySem.W.mg_none_of KX G (by k_is),
      z_range := PySem.W.mg_none_of KX G (by k_is),
      z_repr := PySem.W.mg_none_of KX G (by k_is),
      z_set := PySem.W.mg_none_of KX G (by k_is),
      z_sorted := PySem.W.mg_none_of KX G (by k_is),
      z_str := PySem.W.mg_none_of KX G (by k_is),
      z_sum := PySem.W.mg_none_of KX G (by k_is),
      z_super := PySem.W.mg_none_of KX G (by k_is),
      z_tuple := PySem.W.mg_none_of KX G (by k_is),
      z_zip := PySem.W.mg_none_of KX G (by k_is),
      c_EMPTY := RL.kcon_str KX G (by k_is),
      c_LETTERS := RL.kcon_str KX G (by k_is),
      c_MOST_DEEP := RL.kcon_int KX G (by k_is),
      c_MOST_LETTERS := RL.kcon_int KX G (by k_is),
      c_MOST_PARTS := RL.kcon_int KX G (by k_is),
      c_RESERVED := RL.kcon_tupS KX G (by k_is) (by k_is) (by decide +kernel) (by decide +kernel),
      c_WORDS := RL.kcon_tupS KX G (by k_is) (by k_is) (by decide +kernel) (by decide +kernel),
      ki_SIGNS := RL.kin_mk KX G (by k_is) (by k_is) (by repeat (first | exact True.intro | refine ⟨⟨_, _, rfl, rfl⟩, ?_⟩)) (by decide +kernel) (by rfl),
      ks_MIDDLES := RL.kseq_mk KX G (by k_is) (by k_is) (by repeat (first | exact True.intro | refine ⟨⟨_, _, rfl, rfl⟩, ?_⟩)) (by decide +kernel) (by rfl),
      fm_Term := RL.fmt_mk KX G (by k_is) (by k_is) (by k_is),
      ra_InvalidTerm := RL.rat_mk KX G (by k_is) (by k_is) (by k_is),
      ra_InvalidText := RL.rat_mk KX G (by k_is) (by k_is) (by k_is),
      kx := RL.kxTx_mk KX G (by k_is) (by k_is) (by k_is) (fun p m => by simp only [Dk09.kx_tab, List.mem_cons, List.not_mem_nil, or_false] at m; rcases m with rfl | rfl <;> (dsimp only; exact RL.kxOne_mk KX G (by k_is) (RL.exm_mk (by k_is) (by k_is) (by k_is) (by k_is)) (RL.exm_mk (by k_is) (by k_is) (by k_is) (by k_is)) (RL.exm_mk (by k_is) (by k_is) (by k_is) (by k_is)) (by rfl))),
      d_MIDDLES := RL.kdtab_mk KX G (by k_is) (by k_is) (by repeat (first | exact True.intro | refine ⟨⟨_, _, rfl, rfl⟩, ?_⟩)) (fun kv m => by simp only [Dk09.c_MIDDLES, List.mem_cons, List.not_mem_nil, or_false] at m; rcases m with rfl | rfl <;> exact ⟨_, by k_is⟩),
      d_SHOWN := RL.kdtab_mk KX G (by k_is) (by k_is) (by repeat (first | exact True.intro | refine ⟨⟨_, _, rfl, rfl⟩, ?_⟩)) (fun kv m => by simp only [LTm.c_SHOWN, List.mem_cons, List.not_mem_nil, or_false] at m; rcases m with rfl | rfl | rfl <;> exact ⟨_, by k_is⟩),
      d_SIGNS := RL.kdtab_mk KX G (by k_is) (by k_is) (by repeat (first | exact True.intro | refine ⟨⟨_, _, rfl, rfl⟩, ?_⟩)) (fun kv m => by simp only [LTm.c_SIGNS, List.mem_cons, List.not_mem_nil, or_false] at m; rcases m with rfl | rfl | rfl <;> exact ⟨_, by k_is⟩),
      k_Statement := RL.kconC_mk KX G (by k_is),
      k_Term := RL.kconC_mk KX G (by k_is),
      fl_Reader_place := fT_Reader_place,
      fl_Reader_source := fT_Reader_source,
      fl_Statement_own_one := fT_Statement_own_one,
      fl_Statement_own_other := fT_Statement_own_other,
      fl_Statement_own_relation := fT_Statement_own_relation,
      fl_Term_deep := fT_Term_deep,
      fl_Term_node := fT_Term_node,
      fl_Term_part_count := fT_Term_part_count,
      is_Statement := RL.isT_mk KX G (by k_is) cT_Statement (by k_is) (by k_is) (by k_is) (by k_is) (by k_is) (by k_is) (by k_is) (by k_is) (by k_is) (by k_is) (by k_is) (by k_is) (by k_is) (by k_is) (by k_is) (by k_is) (by k_is) (by k_is) (by k_is),
      is_Term := RL.isT_mk KX G (by k_is) cT_Term (by k_is) (by k_is) (by k_is) (by k_is) (by k_is) (by k_is) (by k_is) (by k_is) (by k_is) (by k_is) (by k_is) (by k_is) (by k_is) (by k_is) (by k_is) (by k_is) (by k_is) (by k_is) (by k_is),
      x_InvalidTerm := RL.xtx_mk RL.bas_VE Dk09.sx_InvalidTerm KX G (by k_is) (by k_is) (by k_is) (by k_is) (by kx_is) (by kx_is) (by ks_is) (by k_is) (by k_is) (by k_is) (by k_is) (by k_is) (by k_is) (by k_is) (by k_is) (by rfl) (by k_is) (fun z m => by simp only [LTi.l_InvalidTerm, List.mem_cons, List.not_mem_nil, or_false] at m; rcases m with rfl | rfl <;> k_is),
      x_InvalidText := RL.xtx_mk RL.bas_VE Dk09.sx_InvalidText KX G (by k_is) (by k_is) (by k_is) (by k_is) (by kx_is) (by kx_is) (by ks_is) (by k_is) (by k_is) (by k_is) (by k_is) (by k_is) (by k_is) (by k_is) (by k_is) (by rfl) (by k_is) (fun z m => by simp only [LTm.l_InvalidText, List.mem_cons, List.not_mem_nil, or_false] at m; rcases m with rfl | rfl <;> k_is),
      xf_code := (RL.xft_cons KX G xT_InvalidTerm (by k_is) (by k_is) (RL.xft_cons KX G xT_InvalidText (by k_is) (by k_is) RL.xft_nil)),
      xf_fact_name := RL.xft_nil,
      xf_limit := RL.xft_nil,
      xf_line := (RL.xft_cons KX G xT_InvalidText (by k_is) (by k_is) RL.xft_nil),
      xf_path := RL.xft_nil,
      xf_sheet_name := RL.xft_nil,
      xf_user := RL.xft_nil,
      xf_value := (RL.xft_cons KX G xT_InvalidTerm (by k_is) (by k_is) RL.xft_nil),
      xf_word := RL.xft_nil,
      eq_Statement := RL.ownEq_mk KX G (by k_is) (by k_is) (by k_is) (by k_is) (by k_is),
      op_and := RL.ownOp_mk KX G (by k_is) (by k_is) (by decide +kernel) (by decide +kernel) (by k_is) (by k_is) (by k_is),
      op_or := RL.ownOp_mk KX G (by k_is) (by k_is) (by decide +kernel) (by decide +kernel) (by k_is) (by k_is) (by k_is),
      op_sub := RL.ownOp_mk KX G (by k_is) (by k_is) (by decide +kernel) (by decide +kernel) (by k_is) (by k_is) (by k_is),
      f_node_text := RL.ftx_mk KX G (by k_is) (by k_is) (by k_is) (by k_is) (fun _ _ _ _ _ _ us hl => match us, hl with | [_], _ => rfl),
      f_Term_text := RL.mtx_mk KX G (by k_is) cT_Term (by k_is) (by k_is) (by k_is) (by k_is) (by k_is) (fun _ _ _ _ _ _ us hl => match us, hl with | [_], _ => rfl),
      f_inner_nodes := RL.ftx_mk KX G (by k_is) (by k_is) (by k_is) (by k_is) (fun _ _ _ _ _ _ us hl => match us, hl with | [_], _ => rfl),
      f_depth_in := RL.ftx_mk KX G (by k_is) (by k_is) (by k_is) (by k_is) (fun _ _ _ _ _ _ us hl => match us, hl with | [_, _], _ => rfl),
      f_parts_in := RL.ftx_mk KX G (by k_is) (by k_is) (by k_is) (by k_is) (fun _ _ _ _ _ _ us hl => match us, hl with | [_, _], _ => rfl),
      f_Term___init__ := RL.mkx_mk KX G (by k_is) cT_Term (by k_is) (by k_is) (by k_is) (by k_is) (by k_is) (by k_is) (by k_is) (fun _ _ _ _ _ _ us hl => match us, hl with | [_, _, _, _], _ => rfl) (fun n m => by simp only [List.mem_cons, List.not_mem_nil, or_false] at m; rcases m with rfl | rfl | rfl <;> assumption),
      f_need_size := RL.ftx_mk KX G (by k_is) (by k_is) (by k_is) (by k_is) (fun _ _ _ _ _ _ us hl => match us, hl with | [_, _], _ => rfl),
      f_sized_term := RL.ftx_mk KX G (by k_is) (by k_is) (by k_is) (by k_is) (fun _ _ _ _ _ _ us hl => match us, hl with | [_], _ => rfl),
      f_Reader___init__ := RL.mkx_mk KX G (by k_is) cT_Reader (by k_is) (by k_is) (by k_is) (by k_is) (by k_is) (by k_is) (by k_is) (fun _ _ _ _ _ _ us hl => match us, hl with | [_, _], _ => rfl) (fun n m => by simp only [List.mem_cons, List.not_mem_nil, or_false] at m; rcases m with rfl | rfl <;> assumption),
      f_is_name := RL.ftx_mk KX G (by k_is) (by k_is) (by k_is) (by k_is) (fun _ _ _ _ _ _ us hl => match us, hl with | [_], _ => rfl),
      f_Reader_take := RL.mtx_mk KX G (by k_is) cT_Reader (by k_is) (by k_is) (by k_is) (by k_is) (by k_is) (fun _ _ _ _ _ _ us hl => match us, hl with | [_, _], _ => rfl),
      f_Reader_letters_here := RL.mtx_mk KX G (by k_is) cT_Reader (by k_is) (by k_is) (by k_is) (by k_is) (by k_is) (fun _ _ _ _ _ _ us hl => match us, hl with | [_], _ => rfl),
      f_Reader_pair := RL.mtx_mk KX G (by k_is) cT_Reader (by k_is) (by k_is) (by k_is) (by k_is) (by k_is) (fun _ _ _ _ _ _ us hl => match us, hl with | [_, _], _ => rfl),
      f_Reader_part := RL.mtx_mk KX G (by k_is) cT_Reader (by k_is) (by k_is) (by k_is) (by k_is) (by k_is) (fun _ _ _ _ _ _ us hl => match us, hl with | [_, _], _ => rfl),
      f_Term_read := RL.stx_mk KX G (by k_is) (by k_is) (by k_is) (by k_is) (by k_is) (by k_is) (by k_is) (by k_is) (by k_is) (fun _ _ _ _ _ _ us hl => match us, hl with | [_], _ => rfl),
      f_Statement___init__ := RL.mkx_mk KX G (by k_is) cT_Statement (by k_is) (by k_is) (by k_is) (by k_is) (by k_is) (by k_is) (by k_is) (fun _ _ _ _ _ _ us hl => match us, hl with | [_, _, _, _], _ => rfl) (fun n m => by simp only [List.mem_cons, List.not_mem_nil, or_false] at m; rcases m with rfl | rfl | rfl <;> assumption),
      f_Statement_read := RL.stx_mk KX G (by k_is) (by k_is) (by k_is) (by k_is) (by k_is) (by k_is) (by k_is) (by k_is) (by k_is) (fun _ _ _ _ _ _ us hl => match us, hl with | [_], _ => rfl),
      f_Statement_relation := RL.prtx_mk KX G (by k_is) cT_Statement (by k_is) (by k_is) (by k_is) (by k_is) (by k_is) (by k_is) (by k_is) (by k_is) (fun _ _ _ _ _ _ us hl => match us, hl with | [_], _ => rfl),
      f_Statement_one := RL.prtx_mk KX G (by k_is) cT_Statement (by k_is) (by k_is) (by k_is) (by k_is) (by k_is) (by k_is) (by k_is) (by k_is) (fun _ _ _ _ _ _ us hl => match us, hl with | [_], _ => rfl),
      f_Statement_other := RL.prtx_mk KX G (by k_is) cT_Statement (by k_is) (by k_is) (by k_is) (by k_is) (by k_is) (by k_is) (by k_is) (by k_is) (fun _ _ _ _ _ _ us hl => match us, hl with | [_], _ => rfl),
      f_Term_of := RL.stx_mk KX G (by k_is) (by k_is) (by k_is) (by k_is) (by k_is) (by k_is) (by k_is) (by k_is) (by k_is) (fun _ _ _ _ _ _ us hl => match us, hl with | [_], _ => rfl),
      f_joined := RL.startx_mk KX G (by k_is) (by k_is) (by k_is) (by k_is) (fun us rest hl => match us, rest, hl with | [_], [], _ => rfl | [_], _ :: _, _ => rfl),
      f_Term___sub__ := RL.mtx_mk KX G (by k_is) cT_Term (by k_is) (by k_is) (by k_is) (by k_is) (by k_is) (fun _ _ _ _ _ _ us hl => match us, hl with | [_, _], _ => rfl),
      f_Term___rsub__ := RL.mtx_mk KX G (by k_is) cT_Term (by k_is) (by k_is) (by k_is) (by k_is) (by k_is) (fun _ _ _ _ _ _ us hl => match us, hl with | [_, _], _ => rfl),
      f_Term___or__ := RL.mtx_mk KX G (by k_is) cT_Term (by k_is) (by k_is) (by k_is) (by k_is) (by k_is) (fun _ _ _ _ _ _ us hl => match us, hl with | [_, _], _ => rfl),
      f_Term___ror__ := RL.mtx_mk KX G (by k_is) cT_Term (by k_is) (by k_is) (by k_is) (by k_is) (by k_is) (fun _ _ _ _ _ _ us hl => match us, hl with | [_, _], _ => rfl),
      f_Term_depth := RL.mtx_mk KX G (by k_is) cT_Term (by k_is) (by k_is) (by k_is) (by k_is) (by k_is) (fun _ _ _ _ _ _ us hl => match us, hl with | [_], _ => rfl),
      f_difference := RL.ftx_mk KX G (by k_is) (by k_is) (by k_is) (by k_is) (fun _ _ _ _ _ _ us hl => match us, hl with | [_, _], _ => rfl),
      f_Statement_rest := RL.mtx_mk KX G (by k_is) cT_Statement (by k_is) (by k_is) (by k_is) (by k_is) (by k_is) (fun _ _ _ _ _ _ us hl => match us, hl with | [_], _ => rfl),
      f_node_names := RL.ftx_mk KX G (by k_is) (by k_is) (by k_is) (by k_is) (fun _ _ _ _ _ _ us hl => match us, hl with | [_], _ => rfl),
      f_Term_names := RL.mtx_mk KX G (by k_is) cT_Term (by k_is) (by k_is) (by k_is) (by k_is) (by k_is) (fun _ _ _ _ _ _ us hl => match us, hl with | [_], _ => rfl),
      f_Statement_terms := RL.mtx_mk KX G (by k_is) cT_Statement (by k_is) (by k_is) (by k_is) (by k_is) (by k_is) (fun _ _ _ _ _ _ us hl => match us, hl with | [_], _ => rfl),
      f_Statement_names := RL.mtx_mk KX G (by k_is) cT_Statement (by k_is) (by k_is) (by k_is) (by k_is) (by k_is) (fun _ _ _ _ _ _ us hl => match us, hl with | [_], _ => rfl),
      f_Term___str__ := RL.mtx_mk KX G (by k_is) cT_Term (by k_is) (by k_is) (by k_is) (by k_is) (by k_is) (fun _ _ _ _ _ _ us hl => match us, hl with | [_], _ => rfl),
      f_Statement_text := RL.mtx_mk KX G (by k_is) cT_Statement (by k_is) (by k_is) (by k_is) (by k_is) (by k_is) (fun _ _ _ _ _ _ us hl => match us, hl with | [_], _ => rfl),
      f_Statement___str__ := RL.mtx_mk KX G (by k_is) cT_Statement (by k_is) (by k_is) (by k_is) (by k_is) (by k_is) (fun _ _ _ _ _ _ us hl => match us, hl with | [_], _ => rfl),
      f_Statement___eq__ := RL.mtx_mk KX G (by k_is) cT_Statement (by k_is) (by k_is) (by k_is) (by k_is) (by k_is) (fun _ _ _ _ _ _ us hl => match us, hl with | [_, _], _ => rfl),
      f_Statement___repr__ := RL.mtx_mk KX G (by k_is) cT_Statement (by k_is) (by k_is) (by k_is) (by k_is) (by k_is) (fun _ _ _ _ _ _ us hl => match us, hl with | [_], _ => rfl),
      f__law_cells := RL.ftx_mk KX G (by k_is) (by k_is) (by k_is) (by k_is) (fun _ _ _ _ _ _ us hl => match us, hl with | [_], _ => rfl),
      f__law_draw := RL.ftx_mk KX G (by k_is) (by k_is) (by k_is) (by k_is) (fun _ _ _ _ _ _ us hl => match us, hl with | [_, _], _ => rfl),
      f__law_one := RL.ftx_mk KX G (by k_is) (by k_is) (by k_is) (by k_is) (fun _ _ _ _ _ _ us hl => match us, hl with | [_, _], _ => rfl),
      f__law_same := RL.ftx_mk KX G (by k_is) (by k_is) (by k_is) (by k_is) (fun _ _ _ _ _ _ us hl => match us, hl with | [_, _], _ => rfl),
      f__law_extra := RL.ftx_mk KX G (by k_is) (by k_is) (by k_is) (by k_is) (fun _ _ _ _ _ _ us hl => match us, hl with | [_], _ => rfl),
      f_Statement_empty := RL.stx_mk KX G (by k_is) (by k_is) (by k_is) (by k_is) (by k_is) (by k_is) (by k_is) (by k_is) (by k_is) (fun _ _ _ _ _ _ us hl => match us, hl with | [_], _ => rfl),
      f_Statement_within := RL.stx_mk KX G (by k_is) (by k_is) (by k_is) (by k_is) (by k_is) (by k_is) (by k_is) (by k_is) (by k_is) (fun _ _ _ _ _ _ us hl => match us, hl with | [_, _], _ => rfl),
      f_Statement_equal := RL.stx_mk KX G (by k_is) (by k_is) (by k_is) (by k_is) (by k_is) (by k_is) (by k_is) (by k_is) (by k_is) (fun _ _ _ _ _ _ us hl => match us, hl with | [_, _], _ => rfl),
      f__law_why := RL.ftx_mk KX G (by k_is) (by k_is) (by k_is) (by k_is) (fun _ _ _ _ _ _ us hl => match us, hl with | [_], _ => rfl),
      f__law_whys := RL.ftx_mk KX G (by k_is) (by k_is) (by k_is) (by k_is) (fun _ _ _ _ _ _ us hl => match us, hl with | [_], _ => rfl),
      f__law_words := RL.ftx_mk KX G (by k_is) (by k_is) (by k_is) (by k_is) (fun _ _ _ _ _ _ us hl => match us, hl with | [_, _], _ => rfl),
      f__law_text := RL.ftx_mk KX G (by k_is) (by k_is) (by k_is) (by k_is) (fun _ _ _ _ _ _ us hl => match us, hl with | [_], _ => rfl),
      f__law_names_in := RL.ftx_mk KX G (by k_is) (by k_is) (by k_is) (by k_is) (fun _ _ _ _ _ _ us hl => match us, hl with | [_], _ => rfl),
      f__law_rest := RL.ftx_mk KX G (by k_is) (by k_is) (by k_is) (by k_is) (fun _ _ _ _ _ _ us hl => match us, hl with | [_], _ => rfl),
      f__law_leaf := RL.ftx_mk KX G (by k_is) (by k_is) (by k_is) (by k_is) (fun _ _ _ _ _ _ us hl => match us, hl with | [_, _], _ => rfl),
      f__law_form := RL.ftx_mk KX G (by k_is) (by k_is) (by k_is) (by k_is) (fun _ _ _ _ _ _ us hl => match us, hl with | [_, _, _], _ => rfl),
      f__law_saying := RL.ftx_mk KX G (by k_is) (by k_is) (by k_is) (by k_is) (fun _ _ _ _ _ _ us hl => match us, hl with | [_, _, _], _ => rfl),
      f__law_saying_text := RL.ftx_mk KX G (by k_is) (by k_is) (by k_is) (by k_is) (fun _ _ _ _ _ _ us hl => match us, hl with | [_], _ => rfl),
      f_Term_whole := RL.stx_mk KX G (by k_is) (by k_is) (by k_is) (by k_is) (by k_is) (by k_is) (by k_is) (by k_is) (by k_is) (fun _ _ _ _ _ _ us hl => match us, hl with | [], _ => rfl),
      f_Term_nothing := RL.stx_mk KX G (by k_is) (by k_is) (by k_is) (by k_is) (by k_is) (by k_is) (by k_is) (by k_is) (by k_is) (fun _ _ _ _ _ _ us hl => match us, hl with | [], _ => rfl),
      f_Term___and__ := RL.mtx_mk KX G (by k_is) cT_Term (by k_is) (by k_is) (by k_is) (by k_is) (by k_is) (fun _ _ _ _ _ _ us hl => match us, hl with | [_, _], _ => rfl),
      f_Term___rand__ := RL.mtx_mk KX G (by k_is) cT_Term (by k_is) (by k_is) (by k_is) (by k_is) (by k_is) (fun _ _ _ _ _ _ us hl => match us, hl with | [_, _], _ => rfl),
      f_Term___invert__ := RL.mtx_mk KX G (by k_is) cT_Term (by k_is) (by k_is) (by k_is) (by k_is) (by k_is) (fun _ _ _ _ _ _ us hl => match us, hl with | [_], _ => rfl),
      f_Term_closed := RL.mtx_mk KX G (by k_is) cT_Term (by k_is) (by k_is) (by k_is) (by k_is) (by k_is) (fun _ _ _ _ _ _ us hl => match us, hl with | [_], _ => rfl),
      f_Term_opened := RL.mtx_mk KX G (by k_is) cT_Term (by k_is) (by k_is) (by k_is) (by k_is) (by k_is) (fun _ _ _ _ _ _ us hl => match us, hl with | [_], _ => rfl),
      f_Term_rim := RL.mtx_mk KX G (by k_is) cT_Term (by k_is) (by k_is) (by k_is) (by k_is) (by k_is) (fun _ _ _ _ _ _ us hl => match us, hl with | [_], _ => rfl),
      f__law_term := RL.ftx_mk KX G (by k_is) (by k_is) (by k_is) (by k_is) (fun _ _ _ _ _ _ us hl => match us, hl with | [_], _ => rfl),
      f__law_statement := RL.ftx_mk KX G (by k_is) (by k_is) (by k_is) (by k_is) (fun _ _ _ _ _ _ us hl => match us, hl with | [_], _ => rfl),
      f_law := RL.ftx_mk KX G (by k_is) (by k_is) (by k_is) (by k_is) (fun _ _ _ _ _ _ us hl => match us, hl with | [_], _ => rfl)
    }
    have TL := RL.tabL_cons tA0 (by kernel_rfl) (PySem.W.km_tabs_of Y _ (by simp)) (by kernel_rfl) (RL.tabL_nil) (by decide)
    exact ⟨T.f_law, TL, fun base HT => Dk09.all_ok T ⟨by decide +kernel, by decide +kernel⟩ (HT _ List.mem_cons_self)⟩
