import PyProof.Rows.All
import Wide.All
import OpenK.AllK
import Wide.FinOn
import HandS.ForMost
import HandS.ForExc
import HandS.IsInst
import HandS.TupAny
import HandS.Deep
import HandS.Walk
import HandS.Wide
import HandS.ExcInit
import HandS.Lambda
import KE.KDflt
import HandS.Style
import HandS.Zip
import HandS.HotCalls
import KE.KTryMore
import HandS.SetFor
import HandS.Strs
import HandS.TupSets
import HandS.SortInts
import HandS.More
import HandS.FStr
import HandS.Star
import HandS.ClsMeth
import KE.KOpsOwn
import KE.KCallOwn
import OpenK.KOps
import KE.KFmtOwn
import HandS.SetTxt0
import HandS.ExcField
import HandS.ExcIs
import KE.KExcSuper
import KE.KExcInit
import KE.KExcIs
import HandS.EndTab
import KE.KNestM
import HandS.Codes
import HandS.StrMore
import HandS.Property
import HandS.DictComp
import HandS.OwnEq
import PyProof.StrBlock2
import HandS.Exc
import KE.GoesRaise
import KE.KParD
import HandS.Iter
import PyProof.TwoTypes
import HandS.TupMul
import PyProof.FactsAll.bool
import PyProof.FactsAll.int
import KE.KStar
import PyProof.DictUpdate
import PySem.Challenge.RW_unseenmap_k07_terms_filled
set_option Elab.async false
set_option linter.all false
section
set_option maxRecDepth 100000
set_option maxHeartbeats 2000000
/-! A layer of our own over the hand layer: values as trees (W), a store of mutable objects, expressions and statements as functions over them. -/
namespace RL
open PySem PySem.Spec L2
/-! ### values, objects, results -/
inductive W where
  | non | bl (b : Bool) | int (i : Int) | str (x : Str)
  | ty (n : String)
  | gl (x : Str)
  | ref (l : Nat)
  | tup (ws : List W)
  | lst (ws : List W)
  | flst (ws : List W)
  | dic (ks : List Key) (ws : List W)
  | ins (c : Str) (ns : List Str) (ws : List W)
  | exn (c : Str) (ns : List Str) (ws : List W)
  | lam (j : Nat)
  | clo (j : Nat) (ws : List W)
  deriving Inhabited
inductive Ob where
  | lst (ws : List W)
  | dic (ks : List Key) (ws : List W)
  | ins (c : Str) (ns : List Str) (ws : List W)
  | tab (x : Str)
  deriving Inhabited
noncomputable abbrev Store := List Ob
noncomputable abbrev Env' := List (Option W)
inductive Res (α : Type) where
  | ok (a : α) (S : Store)
  | exc (c : Str) (ns : List Str) (ws : List W) (S : Store)
  | bad
noncomputable def Res.bind {α β : Type} (r : Res α) (k : α → Store → Res β) : Res β := match r with
  | .ok a S => k a S
  | .exc c ns ws S => .exc c ns ws S
  | .bad => .bad
/-- what runs in a frame -/
noncomputable abbrev SM (α : Type) := Env' → Store → Res α
/-! ### how they lie in a heap -/
noncomputable def KList (K : PySem.W.Frag) (a : Addr) (xs : List V) : Prop :=
  ∃ (o : Obj) (its : Array Value) (n : Nat), K.lookup a = some o ∧ o.cls = .type "list" ∧ o.dict = none ∧ o.data = .seq its n ∧ its.size ≤ sizeLine ∧ Vals xs its.toList
noncomputable def KTup (K : PySem.W.Frag) (a : Addr) (xs : List V) : Prop :=
  ∃ (o : Obj) (its : Array Value) (n : Nat), K.lookup a = some o ∧ o.cls = .type "tuple" ∧ o.data = .seq its n ∧ its.size ≤ sizeLine ∧ Vals xs its.toList
/-- where the store's objects lie (r); what else is in flux: the lists of the comprehensions around (t) -/
structure RT where
  r : List Addr
  t : List Addr
  ce : Str → Option Addr
/-- what is wanted of exceptions; the cells of the def that makes lambdas -/
structure EK where
  e : XK
  ce : Str → Option Addr
noncomputable instance : Coe EK XK := ⟨EK.e⟩
noncomputable instance : CoeFun EK (fun _ => Value → Option Addr → Hp → Prop) := ⟨EK.e⟩
/-- nothing raised, no lambda made -/
noncomputable def EN : EK := ⟨fun _ _ _ => False, fun _ => none⟩
/-- a lambda's text: its full name, its parameters, its body, its scope, the defaults (ints) -/
structure Lm where
  q : Str
  ps : Arguments
  b : Expr
  sc : Scope
  ds : List Int
  deriving Inhabited
class Lams where
  at_ : Nat → Lm
/-- a text without lambdas -/
noncomputable instance (priority := low) noLams : Lams := ⟨fun _ => default⟩
/-- the names that a scope takes from outside -/
noncomputable def frees (sc : Scope) : List Str := (sc.names.filter fun y => decide (y.2 = .free)).map (·.1)
/-- a lambda's function object -/
noncomputable def LamO (f : Addr) (L : Lm) (clo : List (Str × Addr)) (dV : Value) (c' : Addr) : HO := .ext fun h => ∃ doc pm ctv, h.get? f = some (PySem.W.kdv_obj "<lambda>" L.q L.ps (.expr L.b) L.sc clo dV doc pm c' ctv)
/-- an object just as it stands -/
noncomputable abbrev PinO (c : Addr) (o : Obj) : HO := .frz o (.own c)
/-- an exception's object, made or raised -/
noncomputable def exw (a C : Addr) (d : Option Addr) : HO := .ext fun h => ∃ oe vs, h.get? a = some oe ∧ oe.cls = .ref C ∧ oe.dict = d ∧ oe.data = .fields vs
theorem exw_ok {P : Program} {w : World} {H : Hp} {h : Heap} {a C : Addr} {d : Option Addr} {oe : Obj} {vs : Array Value} (e : h.get? a = some oe) (c : oe.cls = .ref C) (dd : oe.dict = d) (f : oe.data = .fields vs) : ObjOk P w H h a (exw a C d) :=
  ⟨⟨oe, vs, e, c, dd, f⟩, ⟨oe, e⟩, fun h1 h2 ⟨o, v, q, r⟩ k => ⟨o, v, k o q, r⟩⟩
theorem pinO_ok {P : Program} {w : World} {H : Hp} {h : Heap} {a : Addr} {o : Obj} (e : h.get? a = some o) : ObjOk P w H h a (PinO a o) := ⟨e, o, e⟩
/-- a def of the module, its code's table of code objects at a -/
noncomputable def TabOf (K : PySem.W.Frag) (mg : Str → Option Value) (x : Str) (a : Addr) : Prop := ∃ f c oc od fd osl, mg x = some (.ref f) ∧ K.lookup f = some ⟨oc, od, .func fd, osl⟩ ∧ fd.code = .ref c ∧ ∀ base : Heap, K.In base → PySem.W.CodeHd base c a
/-- tracked, and no mutable object of the store -/
noncomputable def Fx (ρ : RT) (H : Hp) (a : Addr) (o : HO) : Prop := H a = some o ∧ a ∉ ρ.r ∧ a ∉ ρ.t
/-- a lambda's defaults -/
noncomputable def DvOk (ρ : RT) (H : Hp) (ds : List Int) (dV : Value) : Prop := (ds = [] ∧ dV = .none) ∨ ∃ t, dV = .ref t ∧ ds ≠ [] ∧ Fx ρ H t (.tup (ds.map V.int))
variable [Lams]
open Lams
section
variable (K : PySem.W.Frag) (mg : Str → Option Value) (ρ : RT) (H : Hp)
mutual
inductive RW : W → V → Prop where
  | non : RW .non .non
  | bl (b : Bool) : RW (.bl b) (.bl b)
  | int (i : Int) : RW (.int i) (.int i)
  | str (x : Str) : RW (.str x) (.str x)
  | ty (n : String) : RW (.ty n) (.ty n)
  | gl {x : Str} {a : Addr} (h : mg x = some (.ref a)) : RW (.gl x) (.ref a)
  | ref {l : Nat} {a : Addr} (h : ρ.r[l]? = some a) : RW (.ref l) (.ref a)
  | tup {a : Addr} {vs : List V} {ws : List W} (h : Fx ρ H a (.tup vs) ∨ KTup K a vs) (r : RWs ws vs) : RW (.tup ws) (.ref a)
  | lst {a : Addr} {vs : List V} {ws : List W} (h : Fx ρ H a (.lst vs)) (r : RWs ws vs) : RW (.lst ws) (.ref a)
  | flst {a : Addr} {vs : List V} {ws : List W} (h : (∃ o, Fx ρ H a (.frz o (.lst vs))) ∨ KList K a vs) (r : RWs ws vs) : RW (.flst ws) (.ref a)
  | dic {a : Addr} {ks : List Key} {ws : List W} {vs : List V} (h : ∃ o, Fx ρ H a (.frz o (.dK (ks.zip vs)))) (hl : ks.length = vs.length) (r : RWs ws vs) : RW (.dic ks ws) (.ref a)
  | ins {a C dx : Addr} {c : Str} {ns : List Str} {ws : List W} {vs : List V} (hc : mg c = some (.ref C)) (h : Fx ρ H a (.ins C dx (ns.zip vs))) (hl : ns.length = vs.length) (r : RWs ws vs) : RW (.ins c ns ws) (.ref a)
  | exn {a C dx : Addr} {c : Str} {ns : List Str} {ws : List W} {vs : List V} (hc : mg c = some (.ref C)) (h : Fx ρ H a (exw a C (some dx))) (hd : Fx ρ H dx (.xd (ns.zip vs))) (hl : ns.length = vs.length) (r : RWs ws vs) : RW (.exn c ns ws) (.ref a)
  | lam {j : Nat} {f c' : Addr} {clo : List (Str × Addr)} {dV : Value} (hf : Fx ρ H f (LamO f (at_ j) clo dV c')) (hc : Fx ρ H c' (LamX.CodeO c' (at_ j).q)) (hd : DvOk ρ H (at_ j).ds dV) (he : ∀ y ∈ frees (at_ j).sc, ∃ c, clo.lookup y = some c ∧ ρ.ce y = some c) (hk : ∀ y c, clo.lookup y = some c → y ∈ frees (at_ j).sc) : RW (.lam j) (.ref f)
  | clo {j : Nat} {f c' : Addr} {clo : List (Str × Addr)} {dV : Value} {ws : List W} {vs : List V} (hf : Fx ρ H f (LamO f (at_ j) clo dV c')) (hc : Fx ρ H c' (LamX.CodeO c' (at_ j).q)) (hd : DvOk ρ H (at_ j).ds dV) (hl : vs.length = (frees (at_ j).sc).length)
      (he : ∀ (k : Nat) (y : Str), (frees (at_ j).sc)[k]? = some y → ∃ c v o u, clo.lookup y = some c ∧ vs[k]? = some v ∧ Fx ρ H c (PinO c o) ∧ o.data = .cell (some u) ∧ RelV v u)
      (hk : ∀ y c, clo.lookup y = some c → y ∈ frees (at_ j).sc) (hi : ∀ x y c, clo.lookup x = some c → clo.lookup y = some c → x = y) (r : RWs ws vs) : RW (.clo j ws) (.ref f)
inductive RWs : List W → List V → Prop where
  | nil : RWs [] []
  | cons {w : W} {v : V} {ws : List W} {vs : List V} (h : RW w v) (t : RWs ws vs) : RWs (w :: ws) (v :: vs)
end
inductive RO : Addr → Ob → Prop where
  | lst {a : Addr} {vs : List V} {ws : List W} (h : H a = some (.lst vs)) (r : RWs K mg ρ H ws vs) : RO a (.lst ws)
  | dic {a : Addr} {ks : List Key} {ws : List W} {vs : List V} (h : H a = some (.dK (ks.zip vs))) (hl : ks.length = vs.length) (r : RWs K mg ρ H ws vs) : RO a (.dic ks ws)
  | ins {a C dx : Addr} {c : Str} {ns : List Str} {ws : List W} {vs : List V} (hc : mg c = some (.ref C)) (h : H a = some (.ins C dx (ns.zip vs))) (hl : ns.length = vs.length) (r : RWs K mg ρ H ws vs) : RO a (.ins c ns ws)
  | tab {a : Addr} {x : Str} {ps : Array Value} (ht : TabOf K mg x a) (h : H a = some (.tbl ps)) (hk : TriplesOk ps.toList) (hco : ∀ (pos : Pos) (cv : Value), codeAmong pos ps.toList = some cv → ∃ c, cv = .ref c ∧ Fx ρ H c (LamX.CodeO c (x ++ ".<locals>." ++ "<lambda>"))) : RO a (.tab x)
structure RepS (S : Store) : Prop where
  len : ρ.r.length = S.length
  nd : ρ.r.Nodup
  ob : ∀ (l : Nat) (o : Ob), S[l]? = some o → ∃ a, ρ.r[l]? = some a ∧ RO K mg ρ H a o
  tk : ∀ a, a ∈ ρ.t → H a ≠ none ∧ a ∉ ρ.r
  tp : ∀ a, a ∈ ρ.t → ∀ c u, H a ≠ some (PinO c u)
structure REnv (E : EK) (s : Env') (σ : St) : Prop where
  ce : ∀ y c, E.ce y = some c → ρ.ce y = some c
  len : s.length = σ.length
  look : ∀ (i : Nat) (w : W), s[i]? = some (some w) → ∃ v, σ[i]? = some (some v) ∧ RW K mg ρ H w v
end
/-- later: the store has grown, what is no object of the store stands as it stood -/
structure Ext (ρ : RT) (H : Hp) (ρ' : RT) (H' : Hp) : Prop where
  pre : ∀ (l : Nat) a, ρ.r[l]? = some a → ρ'.r[l]? = some a
  sub : ∀ b, b ∈ ρ.t → b ∈ ρ'.t
  newt : ∀ b, b ∈ ρ'.t → b ∈ ρ.t ∨ H b = none
  keep : ∀ b o, H b = some o → b ∉ ρ.r → H' b = some o
  new : ∀ b, b ∈ ρ'.r → b ∈ ρ.r ∨ H b = none
  still : ∀ b, b ∈ ρ.r → H b ≠ none → H' b ≠ none
  ce : ρ'.ce = ρ.ce
theorem Ext.refl (ρ : RT) (H : Hp) : Ext ρ H ρ H := ⟨fun _ _ h => h, fun _ h => h, fun _ h => .inl h, fun _ _ h _ => h, fun _ h => .inl h, fun _ _ h => h, rfl⟩
theorem Ext.not {ρ ρ' : RT} {H H' : Hp} (e : Ext ρ H ρ' H') {a : Addr} {o : HO} (h : H a = some o) (n : a ∉ ρ.r) : a ∉ ρ'.r := fun m => by
  rcases e.new a m with z | z
  · exact n z
  · rw [h] at z; cases z
theorem Ext.trans {ρ ρ1 ρ2 : RT} {H H1 H2 : Hp} (a : Ext ρ H ρ1 H1) (b : Ext ρ1 H1 ρ2 H2) : Ext ρ H ρ2 H2 where
  pre := fun l x h => b.pre l x (a.pre l x h)
  sub := fun x m => b.sub x (a.sub x m)
  newt := fun x m => by
    rcases b.newt x m with z | z
    · exact a.newt x z
    · cases q : H x with
      | none => exact .inr rfl
      | some o =>
        by_cases hx : x ∈ ρ.r
        · exact absurd z (a.still x hx (by rw [q]; simp))
        · rw [a.keep x o q hx] at z; cases z
  keep := fun x o h n => b.keep x o (a.keep x o h n) (a.not h n)
  new := fun x m => by
    rcases b.new x m with z | z
    · exact a.new x z
    · by_cases hx : x ∈ ρ.r
      · exact .inl hx
      · cases q : H x with
        | none => exact .inr rfl
        | some o => rw [a.keep x o q hx] at z; cases z
  still := fun x m h => by
    have m1 : x ∈ ρ1.r := by
      obtain ⟨i, hi⟩ := List.mem_iff_getElem?.mp m
      exact List.mem_iff_getElem?.mpr ⟨i, a.pre i x hi⟩
    exact b.still x m1 (a.still x m h)
  ce := b.ce.trans a.ce
theorem Fx.ext {ρ ρ' : RT} {H H' : Hp} {a : Addr} {o : HO} (h : Fx ρ H a o) (e : Ext ρ H ρ' H') : Fx ρ' H' a o := ⟨e.keep _ _ h.1 h.2.1, e.not h.1 h.2.1, fun m => (e.newt a m).elim h.2.2 fun z => by rw [h.1] at z; cases z⟩
theorem DvOk.ext {ρ ρ' : RT} {H H' : Hp} {ds : List Int} {dV : Value} (h : DvOk ρ H ds dV) (e : Ext ρ H ρ' H') : DvOk ρ' H' ds dV := h.imp id fun ⟨t, a, b, c⟩ => ⟨t, a, b, c.ext e⟩
section
variable {K : PySem.W.Frag} {mg : Str → Option Value} {ρ ρ' : RT} {H H' : Hp}
mutual
theorem RW.ext (e : Ext ρ H ρ' H') : ∀ {w : W} {v : V}, RW K mg ρ H w v → RW K mg ρ' H' w v
  | _, _, .non => .non
  | _, _, .bl b => .bl b
  | _, _, .int b => .int b
  | _, _, .str b => .str b
  | _, _, .ty b => .ty b
  | _, _, .gl h => .gl h
  | _, _, .ref h => .ref (e.pre _ _ h)
  | _, _, .tup h r => .tup (h.imp (fun z => z.ext e) id) (RWs.ext e r)
  | _, _, .lst h r => .lst (h.ext e) (RWs.ext e r)
  | _, _, .flst h r => .flst (h.imp (fun ⟨o, z⟩ => ⟨o, z.ext e⟩) id) (RWs.ext e r)
  | _, _, .dic h hl r => .dic (h.imp fun _ z => z.ext e) hl (RWs.ext e r)
  | _, _, .ins hc h hl r => .ins hc (h.ext e) hl (RWs.ext e r)
  | _, _, .exn hc h hd hl r => .exn hc (h.ext e) (hd.ext e) hl (RWs.ext e r)
  | _, _, .lam hf hc hd he hk => .lam (hf.ext e) (hc.ext e) (hd.ext e) (fun y m => let ⟨c, h1, h2⟩ := he y m; ⟨c, h1, by rw [e.ce]; exact h2⟩) hk
  | _, _, .clo hf hc hd hl he hk hi r => .clo (hf.ext e) (hc.ext e) (hd.ext e) hl (fun k y m => let ⟨c, v, o, u, h1, h2, h3, h4⟩ := he k y m; ⟨c, v, o, u, h1, h2, h3.ext e, h4⟩) hk hi (RWs.ext e r)
theorem RWs.ext (e : Ext ρ H ρ' H') : ∀ {ws : List W} {vs : List V}, RWs K mg ρ H ws vs → RWs K mg ρ' H' ws vs
  | _, _, .nil => .nil
  | _, _, .cons h t => .cons (RW.ext e h) (RWs.ext e t)
end
theorem RWs.length : ∀ {ws : List W} {vs : List V}, RWs K mg ρ H ws vs → ws.length = vs.length
  | _, _, .nil => rfl
  | _, _, .cons _ t => by rw [List.length_cons, List.length_cons, t.length]
theorem RWs.get : ∀ {ws : List W} {vs : List V} {i : Nat} {w : W}, RWs K mg ρ H ws vs → ws[i]? = some w → ∃ v, vs[i]? = some v ∧ RW K mg ρ H w v
  | _, _, _, _, .nil, h => by simp at h
  | _, _, 0, _, .cons r _, h => by simp at h; subst h; exact ⟨_, rfl, r⟩
  | _, _, i + 1, _, .cons _ t, h => by
    obtain ⟨v, h1, h2⟩ := t.get (i := i) (by simpa using h)
    exact ⟨v, by simpa using h1, h2⟩
theorem RWs.append : ∀ {ws ws' : List W} {vs vs' : List V}, RWs K mg ρ H ws vs → RWs K mg ρ H ws' vs' → RWs K mg ρ H (ws ++ ws') (vs ++ vs')
  | _, _, _, _, .nil, h => h
  | _, _, _, _, .cons r t, h => .cons r (t.append h)
theorem RWs.take : ∀ {ws : List W} {vs : List V} (n : Nat), RWs K mg ρ H ws vs → RWs K mg ρ H (ws.take n) (vs.take n)
  | _, _, 0, _ => .nil
  | _, _, _ + 1, .nil => .nil
  | _, _, n + 1, .cons r t => .cons r (t.take n)
theorem RWs.drop : ∀ {ws : List W} {vs : List V} (n : Nat), RWs K mg ρ H ws vs → RWs K mg ρ H (ws.drop n) (vs.drop n)
  | _, _, 0, r => r
  | _, _, _ + 1, .nil => .nil
  | _, _, n + 1, .cons _ t => t.drop n
theorem RWs.set {w : W} {v : V} (r : RW K mg ρ H w v) : ∀ {ws : List W} {vs : List V} (i : Nat), RWs K mg ρ H ws vs → RWs K mg ρ H (ws.set i w) (vs.set i v)
  | _, _, _, .nil => .nil
  | _, _, 0, .cons _ t => .cons r t
  | _, _, i + 1, .cons q t => .cons q (t.set r i)
theorem RWs.one {w : W} {vs : List V} (r : RWs K mg ρ H [w] vs) : ∃ v, vs = [v] ∧ RW K mg ρ H w v := by
  cases r with | cons h t => cases t; exact ⟨_, rfl, h⟩
theorem RWs.two {w w' : W} {vs : List V} (r : RWs K mg ρ H [w, w'] vs) : ∃ v v', vs = [v, v'] ∧ RW K mg ρ H w v ∧ RW K mg ρ H w' v' := by
  cases r with | cons h t => obtain ⟨v', rfl, h'⟩ := t.one; exact ⟨_, _, rfl, h, h'⟩
theorem RO.ext (e : Ext ρ H ρ' H') {a : Addr} {o : Ob} (hs : H' a = H a) (h : RO K mg ρ H a o) : RO K mg ρ' H' a o := by
  cases h with
  | lst h r => exact .lst (hs.trans h) (r.ext e)
  | dic h hl r => exact .dic (hs.trans h) hl (r.ext e)
  | ins hc h hl r => exact .ins hc (hs.trans h) hl (r.ext e)
  | tab ht h hk hco => exact .tab ht (hs.trans h) hk fun pos cv q => let ⟨c, h1, h2⟩ := hco pos cv q; ⟨c, h1, h2.ext e⟩
theorem RO.there {a : Addr} {o : Ob} (h : RO K mg ρ H a o) : ∃ u, H a = some u := by
  cases h with
  | lst h r => exact ⟨_, h⟩
  | dic h hl r => exact ⟨_, h⟩
  | ins hc h hl r => exact ⟨_, h⟩
  | tab ht h hk hco => exact ⟨_, h⟩
theorem RepS.mem {S : Store} (R : RepS K mg ρ H S) {a : Addr} (h : a ∈ ρ.r) : ∃ u, H a = some u := by
  obtain ⟨i, hi⟩ := List.mem_iff_getElem?.mp h
  have hl : i < ρ.r.length := (List.getElem?_eq_some_iff.mp hi).1
  have hs : i < S.length := by rw [← R.len]; exact hl
  obtain ⟨a', h1, h2⟩ := R.ob i S[i] (List.getElem?_eq_getElem hs)
  rw [hi] at h1; cases h1
  exact h2.there
theorem RepS.fresh {S : Store} (R : RepS K mg ρ H S) {p : Addr} (h : H p = none) : p ∉ ρ.r ∧ p ∉ ρ.t := by
  refine ⟨fun m => ?_, fun m => (R.tk p m).1 h⟩
  obtain ⟨u, e⟩ := R.mem m
  rw [h] at e; cases e
/-- a new tree's root -/
theorem RepS.tree {S : Store} (R : RepS K mg ρ H S) {p : Addr} (h : H p = none) (o : HO) : Ext ρ H ρ (upd H p o) ∧ RepS K mg ρ (upd H p o) S := by
  have e : Ext ρ H ρ (upd H p o) := ⟨fun _ _ h => h, fun _ h => h, fun _ h => .inl h, fun b u hb _ => by rw [upd_ne (ne_of_none hb h)]; exact hb, fun _ h => .inl h, fun b m hb => by
    have n : b ≠ p := fun z => (R.fresh h).1 (z ▸ m)
    rw [upd_ne n]; exact hb, rfl⟩
  refine ⟨e, R.len, R.nd, fun l ob hl => ?_, fun a m => ⟨?_, (R.tk a m).2⟩, fun a m c u => by rw [upd_ne (fun z : a = p => (R.fresh h).2 (z ▸ m))]; exact R.tp a m c u⟩
  · obtain ⟨a, h1, h2⟩ := R.ob l ob hl
    refine ⟨a, h1, h2.ext e (upd_ne fun z => ?_)⟩
    exact (R.fresh h).1 (z ▸ List.mem_of_getElem? h1)
  · rw [upd_ne (fun z : a = p => (R.fresh h).2 (z ▸ m))]; exact (R.tk a m).1
theorem fx_new {S : Store} (R : RepS K mg ρ H S) {p : Addr} (h : H p = none) (o : HO) : Fx ρ (upd H p o) p o := ⟨upd_same, R.fresh h⟩
/-- one object more -/
noncomputable def RT.snoc (ρ : RT) (p : Addr) : RT := ⟨ρ.r ++ [p], ρ.t, ρ.ce⟩
theorem ext_push {S : Store} (R : RepS K mg ρ H S) {p : Addr} (h : H p = none) (o : HO) : Ext ρ H (ρ.snoc p) (upd H p o) := by
  have np := (R.fresh h).1
  exact ⟨fun l a hl => by show (ρ.r ++ [p])[l]? = some a; rw [List.getElem?_append_left (List.getElem?_eq_some_iff.mp hl).1]; exact hl, fun _ h => h, fun _ h => .inl h, fun b u hb _ => by rw [upd_ne (ne_of_none hb h)]; exact hb, fun b m => by
    rcases List.mem_append.mp (show b ∈ ρ.r ++ [p] from m) with z | z
    · exact .inl z
    · have : b = p := by simpa using z
      exact .inr (this ▸ h), fun b m hb => by
    have n : b ≠ p := fun z => np (z ▸ m)
    rw [upd_ne n]; exact hb, rfl⟩
/-- a new object of the store -/
theorem RepS.push {S : Store} (R : RepS K mg ρ H S) {p : Addr} (h : H p = none) {o : HO} {u : Ob} (ho : RO K mg (ρ.snoc p) (upd H p o) p u) : Ext ρ H (ρ.snoc p) (upd H p o) ∧ RepS K mg (ρ.snoc p) (upd H p o) (S ++ [u]) := by
  have np := (R.fresh h).1
  have e := ext_push R h o
  refine ⟨e, by show (ρ.r ++ [p]).length = _; rw [List.length_append, List.length_append, R.len]; rfl, ?_, fun l ob hl => ?_, fun a m => ⟨?_, fun z => ?_⟩, fun a m c u => by rw [upd_ne (fun z : a = p => (R.fresh h).2 (z ▸ m))]; exact R.tp a m c u⟩
  · refine List.nodup_append.mpr ⟨R.nd, by simp, fun a ha b hb z => ?_⟩
    have q : b = p := by simpa using hb
    exact np (by rw [← q, ← z]; exact ha)
  · by_cases hlt : l < S.length
    · rw [List.getElem?_append_left hlt] at hl
      obtain ⟨a, h1, h2⟩ := R.ob l ob hl
      exact ⟨a, e.pre _ _ h1, h2.ext e (upd_ne fun z => np (z ▸ List.mem_of_getElem? h1))⟩
    · have hl' : l = S.length := by
        have z := (List.getElem?_eq_some_iff.mp hl).1
        rw [List.length_append, List.length_singleton] at z
        omega
      subst hl'
      rw [List.getElem?_append_right (Nat.le_refl _), Nat.sub_self] at hl
      cases (show some u = some ob from hl)
      exact ⟨p, by show (ρ.r ++ [p])[S.length]? = _; rw [← R.len, List.getElem?_append_right (Nat.le_refl _), Nat.sub_self]; rfl, ho⟩
  · rw [upd_ne (fun z : a = p => (R.fresh h).2 (z ▸ m))]; exact (R.tk a m).1
  · rcases List.mem_append.mp (show a ∈ ρ.r ++ [p] from z) with z | z
    · exact (R.tk a m).2 z
    · have : a = p := by simpa using z
      exact (R.fresh h).2 (this ▸ m)
/-- an object of the store is changed -/
theorem RepS.wr {S : Store} (R : RepS K mg ρ H S) {l : Nat} {a : Addr} (hl : ρ.r[l]? = some a) {o : HO} {u : Ob} (ho : RO K mg ρ (upd H a o) a u) : Ext ρ H ρ (upd H a o) ∧ RepS K mg ρ (upd H a o) (S.set l u) := by
  have ma : a ∈ ρ.r := List.mem_of_getElem? hl
  have e : Ext ρ H ρ (upd H a o) := ⟨fun _ _ h => h, fun _ h => h, fun _ h => .inl h, fun b u hb n => by rw [upd_ne fun z : b = a => n (by rw [z]; exact ma)]; exact hb, fun _ h => .inl h, fun b _ hb => by
    by_cases hz : b = a
    · subst hz; rw [upd_same]; simp
    · rw [upd_ne hz]; exact hb, rfl⟩
  refine ⟨e, by rw [List.length_set]; exact R.len, R.nd, fun k ob hk => ?_, fun b m => ⟨?_, (R.tk b m).2⟩, fun b m c u => by rw [upd_ne (fun z : b = a => (R.tk b m).2 (by rw [z]; exact ma))]; exact R.tp b m c u⟩
  · by_cases hkl : l = k
    · subst hkl
      have hs : l < S.length := by rw [← R.len]; exact (List.getElem?_eq_some_iff.mp hl).1
      rw [List.getElem?_set_self hs] at hk
      cases hk
      exact ⟨a, hl, ho⟩
    · rw [List.getElem?_set_ne hkl] at hk
      obtain ⟨b, h1, h2⟩ := R.ob k ob hk
      refine ⟨b, h1, h2.ext e (upd_ne fun z => hkl ?_)⟩
      subst z
      obtain ⟨i1, e1⟩ := List.getElem?_eq_some_iff.mp hl
      obtain ⟨i2, e2⟩ := List.getElem?_eq_some_iff.mp h1
      exact (List.getElem_inj R.nd).mp (e1.trans e2.symm)
  · rw [upd_ne (fun z : b = a => (R.tk b m).2 (by rw [z]; exact ma))]; exact (R.tk b m).1
theorem REnv.ext {E : EK} {s : Env'} {σ : St} (e : Ext ρ H ρ' H') (h : REnv K mg ρ H E s σ) : REnv K mg ρ' H' E s σ := ⟨fun y c q => by rw [e.ce]; exact h.ce y c q, h.len, fun i w hw => let ⟨v, h1, h2⟩ := h.look i w hw; ⟨v, h1, h2.ext e⟩⟩
theorem REnv.set {E : EK} {s : Env'} {σ : St} {w : W} {v : V} (h : REnv K mg ρ H E s σ) (i : Nat) (r : RW K mg ρ H w v) : REnv K mg ρ H E (s.set i (some w)) (σ.set i (some v)) := by
  refine ⟨h.ce, by rw [List.length_set, List.length_set]; exact h.len, fun j u hj => ?_⟩
  by_cases hij : i = j
  · subst hij
    by_cases hi : i < s.length
    · rw [List.getElem?_set_self hi] at hj
      cases hj
      exact ⟨v, List.getElem?_set_self (by rw [← h.len]; exact hi), r⟩
    · rw [List.getElem?_eq_none (by rw [List.length_set]; omega)] at hj; cases hj
  · rw [List.getElem?_set_ne hij] at hj
    obtain ⟨v', h1, h2⟩ := h.look j u hj
    exact ⟨v', by rw [List.getElem?_set_ne hij]; exact h1, h2⟩
end
/-! ### what is wanted of a result -/
noncomputable abbrev Rl (β : Type) (α : Type) := RT → Hp → α → β → Prop
section
variable (K : PySem.W.Frag) (mg : Str → Option Value)
noncomputable def ExcOut (E : XK) (ρ : RT) (H : Hp) (c : Str) (ns : List Str) (ws : List W) (S : Store) : Prop :=
  ∀ ρ' H' C d vs, Ext ρ H ρ' H' → RepS K mg ρ' H' S → mg c = some (.ref C) → Fx ρ' H' d (.xd (ns.zip vs)) → ns.length = vs.length → RWs K mg ρ' H' ws vs → E (.ref C) (some d) H'
noncomputable def Out {α β : Type} (R : Rl β α) (E : XK) (ρ : RT) (H : Hp) (r : Res α) (Q : β → Hp → Prop) : Prop := match r with
  | .ok w S => ∀ ρ' H' v, Ext ρ H ρ' H' → RepS K mg ρ' H' S → R ρ' H' w v → Q v H'
  | .exc c ns ws S => ExcOut K mg E ρ H c ns ws S
  | .bad => False
/-- a reading: some store and environment stand for the heap and the slots, and the result is what is wanted -/
noncomputable def tX {α β : Type} (R : Rl β α) (E : EK) (m : SM α) : St → Hp → (β → Hp → Prop) → Prop := fun σ H Q =>
  ∃ ρ s S, RepS K mg ρ H S ∧ REnv K mg ρ H E s σ ∧ Out K mg R E ρ H (m s S) Q
end
section
variable {K : PySem.W.Frag} {mg : Str → Option Value} {ρ ρ' : RT} {H H' : Hp} {α β γ δ : Type} {E : XK}
theorem ExcOut.ext {c : Str} {ns : List Str} {ws : List W} {S : Store} (e : Ext ρ H ρ' H') (h : ExcOut K mg E ρ H c ns ws S) : ExcOut K mg E ρ' H' c ns ws S := fun ρ2 H2 C d vs x => h ρ2 H2 C d vs (e.trans x)
theorem Out.ext {R : Rl β α} {r : Res α} {Q : β → Hp → Prop} (e : Ext ρ H ρ' H') (h : Out K mg R E ρ H r Q) : Out K mg R E ρ' H' r Q := by
  cases r with
  | ok w S => exact fun ρ2 H2 v x => h ρ2 H2 v (e.trans x)
  | exc c ns ws S => exact ExcOut.ext e h
  | bad => exact h
theorem Out.here {R : Rl β α} {w : α} {S : Store} {Q : β → Hp → Prop} {v : β} (h : Out K mg R E ρ H (.ok w S) Q) (rep : RepS K mg ρ H S) (r : R ρ H w v) : Q v H := h ρ H v (Ext.refl _ _) rep r
theorem Out.bind {R : Rl β α} {R' : Rl δ γ} {r : Res α} {k : α → Store → Res γ} {Q : δ → Hp → Prop} {Z : β → Hp → Prop} (h : Out K mg R' E ρ H (r.bind k) Q)
    (f : ∀ ρ1 H1 a b S1, Ext ρ H ρ1 H1 → RepS K mg ρ1 H1 S1 → R ρ1 H1 a b → Out K mg R' E ρ1 H1 (k a S1) Q → Z b H1) : Out K mg R E ρ H r Z := by
  cases r with
  | ok w S => exact fun ρ1 H1 v e rep rw => f ρ1 H1 w v S e rep rw (Out.ext e h)
  | exc c ns ws S => exact h
  | bad => exact h
/-- first m, then k -/
theorem tX.bind {E : EK} {R : Rl β α} {R' : Rl δ γ} {m : SM α} {k : α → SM γ} {σ : St} {Q : δ → Hp → Prop} {Z : β → Hp → Prop} (h : tX K mg R' E (fun s S => (m s S).bind fun a => k a s) σ H Q)
    (f : ∀ ρ1 H1 a b s S1, RepS K mg ρ1 H1 S1 → REnv K mg ρ1 H1 E s σ → R ρ1 H1 a b → Out K mg R' E ρ1 H1 (k a s S1) Q → Z b H1) : tX K mg R E m σ H Z := by
  obtain ⟨ρ, s, S, rep, env, o⟩ := h
  exact ⟨ρ, s, S, rep, env, Out.bind o fun ρ1 H1 a b S1 e rep1 r o1 => f ρ1 H1 a b s S1 rep1 (env.ext e) r o1⟩
end
end RL
end
section
set_option maxRecDepth 100000
set_option maxHeartbeats 2000000
namespace RL
open PySem PySem.Spec L2
variable [Lams]
/-- the longest list, text -/
noncomputable abbrev lim : Nat := 16777216
theorem lim_line {n : Nat} (h : n ≤ lim) : n ≤ sizeLine := by rw [sizeLine_eq]; exact h
theorem lim_lt {n : Nat} (h : n < lim) : n < sizeLine := by rw [sizeLine_eq]; exact h
section
variable (X : Cx) (E : EK)
noncomputable abbrev tE (m : SM W) : TE := tX X.K X.mg (RW X.K X.mg) E m
noncomputable abbrev tT (m : SM Bool) : TT := tX X.K X.mg (fun _ _ a b => a = b) E m
noncomputable abbrev tA (m : SM (List W)) : TA := tX X.K X.mg (RWs X.K X.mg) E m
noncomputable def PM (e : Expr) (m : SM W) : Prop := PE X e (tE X E m)
noncomputable def PTM (e : Expr) (m : SM Bool) : Prop := PT X e (tT X E m)
noncomputable def PWM (e : Expr) (m : SM Bool) : Prop := PW X e (tT X E m)
noncomputable def PAM (es : List Expr) (m : SM (List W)) : Prop := PA X es (tA X E m)
end
theorem pe_imp {X : Cx} {e : Expr} {t t' : TE} (h : PE X e t) (f : ∀ σ H Q, t' σ H Q → t σ H Q) : PE X e t' := ⟨fun pins s σ H Q I q => h.run pins s σ H Q I (f σ H Q q)⟩
theorem pt_imp {X : Cx} {e : Expr} {t t' : TT} (h : PT X e t) (f : ∀ σ H Q, t' σ H Q → t σ H Q) : PT X e t' := ⟨fun pins s σ H Q I q => h.run pins s σ H Q I (f σ H Q q)⟩
theorem pw_imp {X : Cx} {e : Expr} {t t' : TT} (h : PW X e t) (f : ∀ σ H Q, t' σ H Q → t σ H Q) : PW X e t' := ⟨fun wh pins s σ H Q I q => h.run wh pins s σ H Q I (f σ H Q q)⟩
theorem pa_imp {X : Cx} {e : List Expr} {t t' : TA} (h : PA X e t) (f : ∀ σ H Q, t' σ H Q → t σ H Q) : PA X e t' := ⟨fun p pins s σ H Q I q => h.run p pins s σ H Q I (f σ H Q q)⟩
/-! ### names, constants -/
noncomputable def mVar (i : Nat) : SM W := fun s S => match s[i]? with
  | some (some w) => .ok w S
  | _ => .bad
noncomputable def mC (w : W) : SM W := fun _ S => .ok w S
section
variable {X : Cx} {E : EK} {pos : Pos}
theorem pm_var (i : Nat) {x : Str} (hN : X.N[i]? = some x := by rfl) (hv : Vis X.env.scope x := by first | exact Or.inl rfl | exact Or.inr (Or.inl rfl) | exact Or.inr (Or.inr rfl)) (hd : (x == ("__debug__" : Str)) = false := by decide +kernel)
    (hcd : (x == ("__classdict__" : Str)) = false := by decide +kernel) : PM X E (.Name x pos) (mVar i) := by
  refine pe_imp (pe_var hN hv hd hcd) fun σ H Q ⟨ρ, s, S, rep, env, o⟩ => ?_
  unfold mVar at o
  cases e : s[i]? with
  | none => rw [e] at o; exact o.elim
  | some q =>
    cases q with
    | none => rw [e] at o; exact o.elim
    | some w =>
      rw [e] at o
      obtain ⟨v, h1, h2⟩ := env.look i w e
      exact ⟨v, h1, Out.here o rep h2⟩
theorem tC_of {w : W} {v : V} (h : ∀ ρ H, RW X.K X.mg ρ H w v) : ∀ σ H Q, tE X E (mC w) σ H Q → tC v σ H Q := fun σ H Q ⟨ρ, s, S, rep, env, o⟩ => Out.here o rep (h ρ H)
theorem pm_int {i j} : PM X E (.Constant (.int i) j pos) (mC (.int i)) := pe_imp pe_int (tC_of fun _ _ => .int i)
theorem pm_bl {b j} : PM X E (.Constant (.bool b) j pos) (mC (.bl b)) := pe_imp pe_bl (tC_of fun _ _ => .bl b)
theorem pm_non {j} : PM X E (.Constant .none j pos) (mC .non) := pe_imp pe_non (tC_of fun _ _ => .non)
theorem pm_str {x j} : PM X E (.Constant (.str x) j pos) (mC (.str x)) := pe_imp pe_str (tC_of fun _ _ => .str x)
/-- a module's constant -/
noncomputable def KCon (K : PySem.W.Frag) (mg : Str → Option Value) (x : Str) (w : W) : Prop := ∃ u v, mg x = some u ∧ RelV v u ∧ ∀ ρ H, RW K mg ρ H w v
theorem pm_glob {x : Str} {w : W} (h : KCon X.K X.mg x w) (hg : Gl X x := by rfl) (hd : (x == ("__debug__" : Str)) = false := by decide +kernel) : PM X E (.Name x pos) (mC w) := by
  obtain ⟨u, v, hm, r, h⟩ := h
  exact pe_imp (pe_glob hg hm r hd) (tC_of h)
theorem pm_ty {x : Str} {n : String} (hm : X.mg x = none) (hv : bootBuiltins x = some (.type n) := by decide +kernel) (hg : Gl X x := by rfl) (hn : x ≠ "__name__" := by decide +kernel) (hd : (x == ("__debug__" : Str)) = false := by decide +kernel) : PM X E (.Name x pos) (mC (.ty n)) :=
  pe_imp (pe_bltn hg hm hv (v := .ty n) rfl hn hd) (tC_of fun _ _ => .ty n)
end
/-! ### operators -/
noncomputable def mBin (g : W → W → Store → Res W) (ma mb : SM W) : SM W := fun s S => (ma s S).bind fun x S1 => (mb s S1).bind fun y S2 => g x y S2
noncomputable def mUn (g : W → Store → Res W) (ma : SM W) : SM W := fun s S => (ma s S).bind g
noncomputable def R2M (X : Cx) (E : EK) (g : W → W → Store → Res W) : R2 := fun x y H Q => ∃ ρ S w1 w2, RepS X.K X.mg ρ H S ∧ RW X.K X.mg ρ H w1 x ∧ RW X.K X.mg ρ H w2 y ∧ Out X.K X.mg (RW X.K X.mg) E ρ H (g w1 w2 S) Q
noncomputable def OpM (X : Cx) (E : EK) (f : Value → Value → Sem Value) (g : W → W → Store → Res W) : Prop := OpR X f (R2M X E g)
theorem OpR.imp {X : Cx} {f : Value → Value → Sem Value} {r r' : R2} (h : OpR X f r) {x y : V} {H : Hp} {Q : VK} (hr : r' x y H Q → r x y H Q) : ∀ {pins : List (Addr × Obj)} {s : Shared} {σ : L2.St} {v u : Value}, Inv X pins σ H s → RelV x v → RelV y u → r' x y H Q → wpAny (model X.prog X.w) X.A (f v u) (EP X pins σ Q) X.xe s :=
  fun I rx ry q => h _ _ _ _ _ _ _ _ _ I rx ry (hr q)
section
variable {X : Cx} {E : EK} {pos : Pos} {a b c : Expr} {ma mb mc : SM W}
theorem t2_of {g : W → W → Store → Res W} {σ : L2.St} {H : Hp} {Q : VK} (h : tE X E (mBin g ma mb) σ H Q) : tOp (R2M X E g) (tE X E ma) (tE X E mb) σ H Q :=
  tX.bind h fun ρ1 H1 w1 x s S1 rep env r o => ⟨ρ1, s, S1, rep, env, Out.bind o fun ρ2 H2 w2 y S2 e rep2 r2 o2 => ⟨ρ2, S2, w1, w2, rep2, r.ext e, r2, o2⟩⟩
theorem pm_bin {op : Operator} {g : W → W → Store → Res W} (ho : OpM X E (binaryOp op) g) (ha : PM X E a ma) (hb : PM X E b mb) : PM X E (.BinOp a op b pos) (mBin g ma mb) := pe_imp (pe_op ho ha hb) fun _ _ _ h => t2_of h
theorem pm_cmp {op : CmpOp} {g : W → W → Store → Res W} (ho : OpM X E (compareOp op) g) (ha : PM X E a ma) (hb : PM X E b mb) (hm : behindInMarks op b = false := by first | exact nomark _ | rfl) : PM X E (.Compare a [op] [b] pos) (mBin g ma mb) := pe_imp (pe_cmpR ho ha hb hm) fun _ _ _ h => t2_of h
noncomputable def UnM (X : Cx) (E : EK) (f : Value → Sem Value) (g : W → Store → Res W) : Prop := UnR X f (fun x H Q => ∃ ρ S w, RepS X.K X.mg ρ H S ∧ RW X.K X.mg ρ H w x ∧ Out X.K X.mg (RW X.K X.mg) E ρ H (g w S) Q)
theorem pm_un {op : UnaryOp} {g : W → Store → Res W} (ho : UnM X E (unaryOp op) g) (ha : PM X E a ma) : PM X E (.UnaryOp op a pos) (mUn g ma) :=
  pe_imp (pe_un ho ha) fun _ _ _ h => tX.bind h fun ρ1 H1 w x s S1 rep env r o => ⟨ρ1, S1, w, rep, r, o⟩
end
/-! ### tests -/
noncomputable def asB (r : Res W) : Res Bool := r.bind fun w S => match w with
  | .bl b => .ok b S
  | _ => .bad
noncomputable def seqL (S : Store) : W → Option (List W)
  | .lst ws => some ws
  | .flst ws => some ws
  | .ref l => match S[l]? with
    | some (.lst ws) => some ws
    | _ => none
  | _ => none
/-- .. a list that may be added to another (it is tracked as a list) -/
noncomputable def seqM (S : Store) : W → Option (List W)
  | .lst ws => some ws
  | .ref l => match S[l]? with
    | some (.lst ws) => some ws
    | _ => none
  | _ => none
/-- a value's truth -/
noncomputable def truW (S : Store) : W → Option Bool
  | .non => some false
  | .bl b => some b
  | .int i => some (i != 0)
  | .str x => if x.length ≤ lim then some ((x.length : Int) != 0) else none
  | .tup ws => some (!ws.isEmpty)
  | .lst ws => some (!ws.isEmpty)
  | .flst ws => some (!ws.isEmpty)
  | .ref l => match S[l]? with
    | some (.lst ws) => some (!ws.isEmpty)
    | _ => none
  | _ => none
noncomputable def mTru (m : SM W) : SM Bool := fun s S => (m s S).bind fun w S1 => match truW S1 w with
  | some b => .ok b S1
  | none => .bad
section
variable {K : PySem.W.Frag} {mg : Str → Option Value} {ρ : RT} {H : Hp} {S : Store}
theorem rws_empty {ws : List W} {vs : List V} (r : RWs K mg ρ H ws vs) : (!ws.isEmpty) = !vs.isEmpty := by cases r <;> rfl
theorem sqT_of {a : Addr} {vs : List V} (h : Fx ρ H a (.tup vs) ∨ KTup K a vs) : SqT K H a vs := by
  rcases h with h | h
  · exact .inl (.inl h.1)
  · exact .inr h
theorem sqF_of {a : Addr} {vs : List V} (h : (∃ o, Fx ρ H a (.frz o (.lst vs))) ∨ KList K a vs) : SqL K H a vs := by
  rcases h with ⟨o, h⟩ | h
  · exact .inl (.inr ⟨o, h.1⟩)
  · exact .inr h
theorem seqL_of {w : W} {x : V} {ws : List W} (rep : RepS K mg ρ H S) (r : RW K mg ρ H w x) (h : seqL S w = some ws) : ∃ a vs, x = .ref a ∧ SqL K H a vs ∧ RWs K mg ρ H ws vs := by
  cases w with
  | lst us => cases h; cases r with | lst hf hr => exact ⟨_, _, rfl, .inl (.inl hf.1), hr⟩
  | flst us => cases h; cases r with | flst hf hr => exact ⟨_, _, rfl, sqF_of hf, hr⟩
  | ref l =>
    cases r with
    | ref hl =>
      cases e : S[l]? with
      | none => simp [seqL, e] at h
      | some ob =>
        cases ob with
        | lst us =>
          have h : us = ws := by simpa [seqL, seqM, e] using h
          subst h
          obtain ⟨a, h1, h2⟩ := rep.ob l _ e
          rw [hl] at h1; cases h1
          cases h2 with
          | lst h3 h4 => exact ⟨_, _, rfl, .inl (.inl h3), h4⟩
        | _ => simp [seqL, e] at h
  | _ => cases h
theorem seqM_of {w : W} {x : V} {ws : List W} (rep : RepS K mg ρ H S) (r : RW K mg ρ H w x) (h : seqM S w = some ws) : ∃ a vs, x = .ref a ∧ H a = some (.lst vs) ∧ RWs K mg ρ H ws vs := by
  cases w with
  | lst us => cases h; cases r with | lst hf hr => exact ⟨_, _, rfl, hf.1, hr⟩
  | ref l =>
    cases r with
    | ref hl =>
      cases e : S[l]? with
      | none => simp [seqM, e] at h
      | some ob =>
        cases ob with
        | lst us =>
          have h : us = ws := by simpa [seqL, seqM, e] using h
          subst h
          obtain ⟨a, h1, h2⟩ := rep.ob l _ e
          rw [hl] at h1; cases h1
          cases h2 with
          | lst h3 h4 => exact ⟨_, _, rfl, h3, h4⟩
        | _ => simp [seqM, e] at h
  | _ => cases h
theorem truW_of {w : W} {x : V} {b : Bool} (rep : RepS K mg ρ H S) (r : RW K mg ρ H w x) (h : truW S w = some b) : TruV K x H b := by
  cases w with
  | non => cases r; exact (Option.some.inj h).symm
  | bl c => cases r; exact (Option.some.inj h).symm
  | int i => cases r; exact (Option.some.inj h).symm
  | str y =>
    cases r
    have h : (if y.length ≤ lim then some ((y.length : Int) != 0) else none) = some b := h
    split at h
    · rename_i hz; exact ⟨lim_line hz, (Option.some.inj h).symm⟩
    · cases h
  | tup ws => cases r with | tup hf hr => exact .inr (.inl ⟨_, sqT_of hf, by rw [← rws_empty hr]; exact (Option.some.inj h).symm⟩)
  | lst ws => cases r with | lst hf hr => exact .inl ⟨_, .inl (.inl hf.1), by rw [← rws_empty hr]; exact (Option.some.inj h).symm⟩
  | flst ws => cases r with | flst hf hr => exact .inl ⟨_, sqF_of hf, by rw [← rws_empty hr]; exact (Option.some.inj h).symm⟩
  | ref l =>
    have h' : (seqL S (.ref l)).map (fun ws => !ws.isEmpty) = some b := by
      cases e : S[l]? with
      | none => simp [truW, e] at h
      | some ob => cases ob <;> first | (simp [truW, seqL, e] at h ⊢; exact h) | (simp [truW, e] at h)
    cases e : seqL S (.ref l) with
    | none => rw [e] at h'; cases h'
    | some ws =>
      rw [e] at h'
      obtain ⟨a, vs, rfl, hs, hr⟩ := seqL_of rep r e
      exact .inl ⟨vs, hs, by rw [← rws_empty hr]; exact (Option.some.inj h').symm⟩
  | _ => cases h
end
section
variable {X : Cx} {E : EK} {pos : Pos} {a b c : Expr} {ma mb mc : SM W} {na nb nc : SM Bool} {rest : List Expr}
/-- an expression of any kind, as a test -/
theorem ptm_tru (h : PM X E a ma) (he : ∀ whole, isTrue a X.env whole = (do let v ← whole; standAt a.pos; holding [v] (truthy v)) := by intro _; rfl) : PTM X E a (mTru ma) :=
  pt_imp (pt_truth h he) fun σ H Q q => tX.bind q fun ρ1 H1 w x s S1 rep env r o => by
    cases e : truW S1 w with
    | none => rw [e] at o; exact o.elim
    | some k => rw [e] at o; exact ⟨k, truW_of rep r e, Out.here o rep rfl⟩
noncomputable def mBT (g : W → W → Store → Res W) (ma mb : SM W) : SM Bool := fun s S => asB (mBin g ma mb s S)
theorem out_asB {K : PySem.W.Frag} {mg : Str → Option Value} {E : EK} {ρ : RT} {H : Hp} {r : Res W} {Q : Bool → Hp → Prop} (h : Out K mg (fun _ _ a b => a = b) E ρ H (asB r) Q) : Out K mg (RW K mg) E ρ H r fun x H1 => ∃ k, x = .bl k ∧ Q k H1 := by
  refine Out.bind (R' := fun _ _ (a : Bool) b => a = b) h fun ρ1 H1 w x S1 e rep r o => ?_
  cases w with
  | bl k => cases r; exact ⟨k, rfl, Out.here o rep rfl⟩
  | _ => exact o.elim
theorem ptm_cmp {op : CmpOp} {g : W → W → Store → Res W} (ho : OpM X E (compareOp op) g) (ha : PM X E a ma) (hb : PM X E b mb) (hm : behindInMarks op b = false := by first | exact nomark _ | rfl) : PTM X E (.Compare a [op] [b] pos) (mBT g ma mb) :=
  pt_imp (pt_cmpR ho ha hb hm) fun σ H Q ⟨ρ, s, S, rep, env, o⟩ => by
    have o' := out_asB o
    exact t2_of (g := g) ⟨ρ, s, S, rep, env, o'⟩
noncomputable def mAndT (na nb : SM Bool) : SM Bool := fun s S => (na s S).bind fun c S1 => if c = true then nb s S1 else .ok false S1
noncomputable def mOrT (na nb : SM Bool) : SM Bool := fun s S => (na s S).bind fun c S1 => if c = true then .ok true S1 else nb s S1
noncomputable def mNotT (na : SM Bool) : SM Bool := fun s S => (na s S).bind fun c S1 => .ok (!c) S1
theorem pwm_and1 (ha : PTM X E a na) : PWM X E (.BoolOp .And [a] pos) na := pw_and1 ha
theorem pwm_or1 (ha : PTM X E a na) : PWM X E (.BoolOp .Or [a] pos) na := pw_or1 ha
theorem pwm_and (ha : PTM X E a na) (hb : PWM X E (.BoolOp .And (b :: rest) pos) nb) : PWM X E (.BoolOp .And (a :: b :: rest) pos) (mAndT na nb) :=
  pw_imp (pw_and ha hb) fun σ H Q h => tX.bind h fun ρ1 H1 c c' s S1 rep env r o => by
    cases r
    cases c with
    | true => rw [if_pos rfl] at o; rw [if_pos rfl]; exact ⟨ρ1, s, S1, rep, env, o⟩
    | false => rw [if_neg Bool.false_ne_true] at o; rw [if_neg Bool.false_ne_true]; exact Out.here o rep rfl
theorem pwm_or (ha : PTM X E a na) (hb : PWM X E (.BoolOp .Or (b :: rest) pos) nb) : PWM X E (.BoolOp .Or (a :: b :: rest) pos) (mOrT na nb) :=
  pw_imp (pw_or ha hb) fun σ H Q h => tX.bind h fun ρ1 H1 c c' s S1 rep env r o => by
    cases r
    cases c with
    | false => rw [if_neg Bool.false_ne_true] at o; rw [if_neg Bool.false_ne_true]; exact ⟨ρ1, s, S1, rep, env, o⟩
    | true => rw [if_pos rfl] at o; rw [if_pos rfl]; exact Out.here o rep rfl
theorem PWM.pt (h : PWM X E a na) : PTM X E a na := PW.pt h
theorem ptm_not (ha : PTM X E a na) : PTM X E (.UnaryOp .Not a pos) (mNotT na) :=
  pt_imp (pt_not ha) fun σ H Q h => tX.bind h fun ρ1 H1 c c' s S1 rep env r o => by cases r; exact Out.here o rep rfl
/-- and, or, not as values: all but the last True or False -/
noncomputable def mAndV (ma mb : SM W) : SM W := fun s S => (ma s S).bind fun w S1 => match w with
  | .bl true => mb s S1
  | .bl false => .ok (.bl false) S1
  | _ => .bad
noncomputable def mOrV (ma mb : SM W) : SM W := fun s S => (ma s S).bind fun w S1 => match w with
  | .bl true => .ok (.bl true) S1
  | .bl false => mb s S1
  | _ => .bad
theorem pm_one {op : BoolOp} (ha : PM X E a ma) : PM X E (.BoolOp op [a] pos) ma := pe_one ha
theorem pm_and (ha : PM X E a ma) (hb : PM X E (.BoolOp .And (b :: rest) pos) mb) : PM X E (.BoolOp .And (a :: b :: rest) pos) (mAndV ma mb) :=
  pe_imp (pe_and ha hb) fun σ H Q h => tX.bind h fun ρ1 H1 w x s S1 rep env r o => by
    cases w with
    | bl k =>
      cases r
      refine ⟨k, rfl, ?_⟩
      cases k with
      | true => rw [if_pos rfl]; exact ⟨ρ1, s, S1, rep, env, o⟩
      | false => rw [if_neg Bool.false_ne_true]; exact Out.here o rep (.bl false)
    | _ => exact o.elim
noncomputable def mIfE (nc : SM Bool) (ma mb : SM W) : SM W := fun s S => (nc s S).bind fun k S1 => if k = true then ma s S1 else mb s S1
theorem pm_ifExp (hc : PTM X E c nc) (ha : PM X E a ma) (hb : PM X E b mb) : PM X E (.IfExp c a b pos) (mIfE nc ma mb) :=
  pe_imp (pe_ifExp hc ha hb) fun σ H Q h => tX.bind h fun ρ1 H1 k k' s S1 rep env r o => by
    cases r
    cases k with
    | true => rw [if_pos rfl] at o; rw [if_pos rfl]; exact ⟨ρ1, s, S1, rep, env, o⟩
    | false => rw [if_neg Bool.false_ne_true] at o; rw [if_neg Bool.false_ne_true]; exact ⟨ρ1, s, S1, rep, env, o⟩
/-- a < b < c -/
noncomputable def mChain (g g' : W → W → Store → Res W) (ma mb mc : SM W) : SM W := fun s S => (ma s S).bind fun x S1 => (mb s S1).bind fun y S2 => (g x y S2).bind fun z S3 => match z with
  | .bl true => (mc s S3).bind fun w S4 => g' y w S4
  | .bl false => .ok (.bl false) S3
  | _ => .bad
theorem chain_of {g g' : W → W → Store → Res W} {σ : L2.St} {H : Hp} {Q : VK} (h : tE X E (mChain g g' ma mb mc) σ H Q) : tChain (R2M X E g) (R2M X E g') (tE X E ma) (tE X E mb) (tE X E mc) σ H Q :=
  tX.bind h fun ρ1 H1 w1 x s S1 rep env r o => ⟨ρ1, s, S1, rep, env, Out.bind o fun ρ2 H2 w2 y S2 e rep2 r2 o2 => ⟨ρ2, S2, w1, w2, rep2, r.ext e, r2, Out.bind o2 fun ρ3 H3 w3 z S3 e3 rep3 r3 o3 => by
    cases w3 with
    | bl k =>
      cases r3
      refine ⟨k, rfl, ?_⟩
      cases k with
      | true => rw [if_pos rfl]; exact ⟨ρ3, s, S3, rep3, (env.ext e).ext e3, Out.bind o3 fun ρ4 H4 w4 x4 S4 e4 rep4 r4 o4 => ⟨ρ4, S4, w2, w4, rep4, (r2.ext e3).ext e4, r4, o4⟩⟩
      | false => rw [if_neg Bool.false_ne_true]; exact Out.here o3 rep3 (.bl false)
    | _ => exact o3.elim⟩⟩
theorem ptm_chain {op op' : CmpOp} {g g' : W → W → Store → Res W} (ho : OpM X E (compareOp op) g) (ho' : OpM X E (compareOp op') g') (ha : PM X E a ma) (hb : PM X E b mb) (hc : PM X E c mc) (hm : lastMarks [op, op'] [b, c] = false := by with_unfolding_all rfl) :
    PTM X E (.Compare a [op, op'] [b, c] pos) (fun s S => asB (mChain g g' ma mb mc s S)) := pt_imp (pt_chain ho ho' ha hb hc hm) fun σ H Q ⟨ρ, s, S, rep, env, o⟩ => chain_of ⟨ρ, s, S, rep, env, out_asB o⟩
end
end RL
end
section
set_option maxRecDepth 100000
set_option maxHeartbeats 2000000
namespace RL
open PySem PySem.Spec L2
variable [Lams]
/-! ### operators by values -/
noncomputable def gAdd (w1 w2 : W) (S : Store) : Res W := match w1 with
  | .int i => match w2 with
    | .int j => .ok (.int (i + j)) S
    | _ => .bad
  | .str x => match w2 with
    | .str y => if x.length + y.length ≤ lim then .ok (.str (x ++ y)) S else .bad
    | _ => .bad
  | .tup a => match w2 with
    | .tup b => if a.length + b.length ≤ lim then .ok (.tup (a ++ b)) S else .bad
    | _ => .bad
  | w => match seqM S w, seqM S w2 with
    | some a, some b => if a.length + b.length ≤ lim then .ok (.lst (a ++ b)) S else .bad
    | _, _ => .bad
noncomputable def gI (f : Int → Int → Int) (w1 w2 : W) (S : Store) : Res W := match w1, w2 with
  | .int i, .int j => .ok (.int (f i j)) S
  | _, _ => .bad
noncomputable def gIc (c : Int → Int → Bool) (f : Int → Int → Int) (w1 w2 : W) (S : Store) : Res W := match w1, w2 with
  | .int i, .int j => if c i j = true then .ok (.int (f i j)) S else .bad
  | _, _ => .bad
noncomputable def gIb (f : Int → Int → Bool) (w1 w2 : W) (S : Store) : Res W := match w1, w2 with
  | .int i, .int j => .ok (.bl (f i j)) S
  | _, _ => .bad
noncomputable abbrev gSub := gI fun i j => i - j
noncomputable def cMul (i j : Int) : Bool := (decide (-(2 ^ 64) < i) && decide (i < 2 ^ 64)) || (decide (-(2 ^ 64) < j) && decide (j < 2 ^ 64))
/-- a product; a list times a number -/
noncomputable def gMul (w1 w2 : W) (S : Store) : Res W := match w1 with
  | .int i => match w2 with
    | .int j => if cMul i j = true then .ok (.int (i * j)) S else .bad
    | _ => .bad
  | w => match seqM S w, w2 with
    | some a, .int k => if -(2 ^ 63) ≤ k ∧ k < 2 ^ 63 ∧ a.length * k.toNat ≤ lim then .ok (.lst (List.replicate k.toNat a).flatten) S else .bad
    | _, _ => .bad
noncomputable abbrev gMod := gIc (fun _ j => decide (0 < j)) fun i j => i % j
noncomputable abbrev gDiv := gIc (fun _ j => decide (0 < j) && decide (j < 1073741824)) fun i j => i / j
noncomputable abbrev gPow := gIc (fun i j => decide (0 ≤ j) && decide (j ≤ 1000000) && decide (i.natAbs < 2 ^ 64)) fun i j => i ^ j.toNat
noncomputable abbrev gLt := gIb fun i j => decide (i < j)
noncomputable abbrev gLe := gIb fun i j => decide (i ≤ j)
noncomputable abbrev gGt := gIb fun i j => decide (j < i)
noncomputable abbrev gGe := gIb fun i j => decide (j ≤ i)
section
variable {K : PySem.W.Frag} {mg : Str → Option Value} {ρ : RT} {H : Hp} {S : Store} {E : EK} {Q : VK}
/-- the end of a rule that lays a new tree -/
theorem out_tree {w : W} {p : Addr} {u : HO} (o : Out K mg (RW K mg) E ρ H (.ok w S) Q) (rep : RepS K mg ρ H S) (hp : H p = none) (mk : Ext ρ H ρ (upd H p u) → Fx ρ (upd H p u) p u → RW K mg ρ (upd H p u) w (.ref p)) : Q (.ref p) (upd H p u) := by
  obtain ⟨e, rep'⟩ := rep.tree hp u
  exact o ρ _ _ e rep' (mk e (fx_new rep hp u))
theorem out_lst {ws : List W} {vs : List V} {p : Addr} (o : Out K mg (RW K mg) E ρ H (.ok (.lst ws) S) Q) (rep : RepS K mg ρ H S) (hp : H p = none) (r : RWs K mg ρ H ws vs) : Q (.ref p) (upd H p (.lst vs)) :=
  out_tree o rep hp fun e f => .lst f (r.ext e)
theorem out_tup {ws : List W} {vs : List V} {p : Addr} (o : Out K mg (RW K mg) E ρ H (.ok (.tup ws) S) Q) (rep : RepS K mg ρ H S) (hp : H p = none) (r : RWs K mg ρ H ws vs) : Q (.ref p) (upd H p (.tup vs)) :=
  out_tree o rep hp fun e f => .tup (.inl f) (r.ext e)
theorem RWs.flatten {ws : List W} {vs : List V} (r : RWs K mg ρ H ws vs) : ∀ n : Nat, RWs K mg ρ H (List.replicate n ws).flatten (List.replicate n vs).flatten
  | 0 => .nil
  | n + 1 => by
    rw [List.replicate_succ, List.replicate_succ, List.flatten_cons, List.flatten_cons]
    exact r.append (r.flatten n)
end
section
variable {X : Cx} {E : EK}
theorem om_add : OpM X E (binaryOp .Add) gAdd := by
  intro pins s σ H x y v u Q I rx ry ⟨ρ, S, w1, w2, rep, r1, r2, o⟩
  have lists : (∀ a b, seqM S w1 = some a → seqM S w2 = some b → gAdd w1 w2 S = if a.length + b.length ≤ lim then .ok (.lst (a ++ b)) S else .bad) → (seqM S w1 = none ∨ seqM S w2 = none → gAdd w1 w2 S = .bad) → wpAny (model X.prog X.w) X.A (binaryOp .Add v u) (EP X pins σ Q) X.xe s := fun h1 h2 => by
    cases e1 : seqM S w1 with
    | none => rw [h2 (.inl e1)] at o; exact o.elim
    | some a =>
      cases e2 : seqM S w2 with
      | none => rw [h2 (.inr e2)] at o; exact o.elim
      | some b =>
        rw [h1 a b e1 e2] at o
        split at o
        · rename_i hz
          obtain ⟨p, xs, rfl, hp, q1⟩ := seqM_of rep r1 e1
          obtain ⟨q, ys, rfl, hq, q2⟩ := seqM_of rep r2 e2
          exact op_cat pins s σ H _ _ v u Q I rx ry ⟨p, q, xs, ys, rfl, rfl, hp, hq, by rw [← q1.length, ← q2.length]; exact lim_line hz, fun l hl => out_lst o rep hl (q1.append q2)⟩
        · exact o.elim
  cases w1 with
  | int i =>
    cases w2 with
    | int j => cases r1; cases r2; exact op_add pins s σ H _ _ v u Q I rx ry ⟨i, j, rfl, rfl, Out.here o rep (.int _)⟩
    | _ => exact o.elim
  | str a =>
    cases w2 with
    | str b =>
      cases r1; cases r2
      have o : Out X.K X.mg (RW X.K X.mg) E ρ H (if a.length + b.length ≤ lim then Res.ok (W.str (a ++ b)) S else Res.bad) Q := o
      split at o
      · rename_i hz; exact op_add_str pins s σ H _ _ v u Q I rx ry ⟨a, b, rfl, rfl, lim_line hz, Out.here o rep (.str _)⟩
      · exact o.elim
    | _ => exact o.elim
  | tup a =>
    cases w2 with
    | tup b =>
      have o : Out X.K X.mg (RW X.K X.mg) E ρ H (if a.length + b.length ≤ lim then Res.ok (W.tup (a ++ b)) S else Res.bad) Q := o
      split at o
      · rename_i hz
        cases r1 with
        | tup h1 q1 =>
          cases r2 with
          | tup h2 q2 =>
            refine op_catA pins s σ H _ _ v u Q I rx ry ⟨_, _, _, _, rfl, rfl, sqT_of h1, sqT_of h2, by rw [← q1.length, ← q2.length]; exact lim_line hz, fun e => ?_, fun _ e => ?_, fun _ _ p hp => ?_⟩
            · subst e
              have : a = [] := by cases q1; rfl
              subst this
              exact Out.here o rep (.tup h2 q2)
            · subst e
              have : b = [] := by cases q2; rfl
              subst this
              rw [List.append_nil] at o
              exact Out.here o rep (.tup h1 q1)
            · exact out_tup o rep hp (q1.append q2)
      · exact o.elim
    | _ => exact o.elim
  | lst a => exact lists (fun a b e1 e2 => by simp only [gAdd, e1, e2]) (fun h => by rcases h with h | h <;> simp only [gAdd, h] <;> cases seqM S (W.lst a) <;> rfl)
  | ref a => exact lists (fun a b e1 e2 => by simp only [gAdd, e1, e2]) (fun h => by rcases h with h | h <;> simp only [gAdd, h] <;> cases seqM S (W.ref a) <;> rfl)
  | _ => exact o.elim
theorem om_I {f : Value → Value → Sem Value} {g : Int → Int → Int} (h : OpR X f (rI0 fun i j => .int (g i j))) : OpM X E f (gI g) := by
  intro pins s σ H x y v u Q I rx ry ⟨ρ, S, w1, w2, rep, r1, r2, o⟩
  cases w1 with
  | int i =>
    cases w2 with
    | int j => cases r1; cases r2; exact h pins s σ H _ _ v u Q I rx ry ⟨i, j, rfl, rfl, Out.here o rep (.int _)⟩
    | _ => exact o.elim
  | _ => exact o.elim
theorem om_Ib {f : Value → Value → Sem Value} {g : Int → Int → Bool} (h : OpR X f (rI0 fun i j => .bl (g i j))) : OpM X E f (gIb g) := by
  intro pins s σ H x y v u Q I rx ry ⟨ρ, S, w1, w2, rep, r1, r2, o⟩
  cases w1 with
  | int i =>
    cases w2 with
    | int j => cases r1; cases r2; exact h pins s σ H _ _ v u Q I rx ry ⟨i, j, rfl, rfl, Out.here o rep (.bl _)⟩
    | _ => exact o.elim
  | _ => exact o.elim
theorem om_Ic {f : Value → Value → Sem Value} {c : Int → Int → Bool} {C : Int → Int → Prop} {g : Int → Int → Int} (h : OpR X f (rI C fun i j => .int (g i j))) (hc : ∀ i j, c i j = true → C i j) : OpM X E f (gIc c g) := by
  intro pins s σ H x y v u Q I rx ry ⟨ρ, S, w1, w2, rep, r1, r2, o⟩
  cases w1 with
  | int i =>
    cases w2 with
    | int j =>
      cases r1; cases r2
      have o : Out X.K X.mg (RW X.K X.mg) E ρ H (if c i j = true then Res.ok (W.int (g i j)) S else Res.bad) Q := o
      split at o
      · rename_i hz; exact h pins s σ H _ _ v u Q I rx ry ⟨i, j, rfl, rfl, hc i j hz, Out.here o rep (.int _)⟩
      · exact o.elim
    | _ => exact o.elim
  | _ => exact o.elim
theorem om_sub : OpM X E (binaryOp .Sub) gSub := om_I op_sub
theorem om_mod : OpM X E (binaryOp .Mod) gMod := om_Ic op_mod fun _ _ h => of_decide_eq_true h
theorem om_div : OpM X E (binaryOp .FloorDiv) gDiv := om_Ic op_fdiv fun _ _ h => by simp only [Bool.and_eq_true, decide_eq_true_eq] at h; exact h
theorem om_pow : OpM X E (binaryOp .Pow) gPow := om_Ic op_pow fun _ _ h => by simp only [Bool.and_eq_true, decide_eq_true_eq] at h; exact ⟨h.1.1, h.1.2, h.2⟩
theorem om_lt : OpM X E (compareOp .Lt) gLt := om_Ib op_lt
theorem om_le : OpM X E (compareOp .LtE) gLe := om_Ib op_le
theorem om_gt : OpM X E (compareOp .Gt) gGt := om_Ib op_gt
theorem om_ge : OpM X E (compareOp .GtE) gGe := om_Ib op_ge
theorem om_mul : OpM X E (binaryOp .Mult) gMul := by
  intro pins s σ H x y v u Q I rx ry ⟨ρ, S, w1, w2, rep, r1, r2, o⟩
  have lists : (∀ a k, seqM S w1 = some a → w2 = .int k → gMul w1 w2 S = if -(2 ^ 63) ≤ k ∧ k < 2 ^ 63 ∧ a.length * k.toNat ≤ lim then .ok (.lst (List.replicate k.toNat a).flatten) S else .bad) → (seqM S w1 = none ∨ (∀ k, w2 ≠ .int k) → gMul w1 w2 S = .bad) → wpAny (model X.prog X.w) X.A (binaryOp .Mult v u) (EP X pins σ Q) X.xe s := fun h1 h2 => by
    cases e1 : seqM S w1 with
    | none => rw [h2 (.inl e1)] at o; exact o.elim
    | some a =>
      cases w2 with
      | int k =>
        rw [h1 a k e1 rfl] at o
        split at o
        · rename_i hz
          obtain ⟨p, xs, rfl, hp, q1⟩ := seqM_of rep r1 e1
          cases r2
          exact op_rep pins s σ H _ _ v u Q I rx ry ⟨p, k, xs, rfl, rfl, hp, hz.1, hz.2.1, by rw [← q1.length]; exact lim_line hz.2.2, fun l hl => out_lst o rep hl (q1.flatten _)⟩
        · exact o.elim
      | _ => rw [h2 (.inr (by intro k e; cases e))] at o; exact o.elim
  cases w1 with
  | int i =>
    cases w2 with
    | int j =>
      cases r1; cases r2
      have o : Out X.K X.mg (RW X.K X.mg) E ρ H (if cMul i j = true then Res.ok (W.int (i * j)) S else Res.bad) Q := o
      split at o
      · rename_i hz
        refine op_mul pins s σ H _ _ v u Q I rx ry ⟨i, j, rfl, rfl, ?_, Out.here o rep (.int _)⟩
        simp only [cMul, Bool.or_eq_true, Bool.and_eq_true, decide_eq_true_eq] at hz
        exact hz
      · exact o.elim
    | _ => exact o.elim
  | lst a => exact lists (fun a k e1 e2 => by subst e2; simp only [gMul, e1]) (fun h => by
      rcases h with h | h
      · simp only [gMul, h]
      · simp only [gMul]; split <;> first | rfl | exact absurd rfl (h _))
  | ref a => exact lists (fun a k e1 e2 => by subst e2; simp only [gMul, e1]) (fun h => by
      rcases h with h | h
      · simp only [gMul, h]
      · simp only [gMul]; split <;> first | rfl | exact absurd rfl (h _))
  | _ => exact o.elim
end
/-! ### ==, !=, in, not in, is -/
mutual
noncomputable def toD : W → Option PyData
  | .non => some .none
  | .bl b => some (.bool b)
  | .int i => some (.int i)
  | .str x => some (.str x)
  | .tup ws => (toDs ws).map .tuple
  | .lst ws => (toDs ws).map .list
  | .flst ws => (toDs ws).map .list
  | _ => none
noncomputable def toDs : List W → Option (List PyData)
  | [] => some []
  | w :: ws => match toD w, toDs ws with
    | some d, some ds => some (d :: ds)
    | _, _ => none
end
section
variable {K : PySem.W.Frag} {mg : Str → Option Value} {ρ : RT} {H : Hp} {S : Store}
mutual
theorem toD_dp : ∀ {w : W} {v : V} {d : PyData}, RW K mg ρ H w v → toD w = some d → Dp K H v d
  | _, _, _, .non, h => by cases (Option.some.inj h : PyData.none = _); exact .non
  | _, _, _, .bl b, h => by cases (Option.some.inj h : PyData.bool b = _); exact .bl b
  | _, _, _, .int i, h => by cases (Option.some.inj h : PyData.int i = _); exact .int i
  | _, _, _, .str x, h => by cases (Option.some.inj h : PyData.str x = _); exact .str x
  | _, _, _, .tup (ws := ws) hf r, h => by
    cases e : toDs ws with
    | none => simp [toD, e] at h
    | some ds => simp [toD, e] at h; subst h; exact .tup (sqT_of hf) (toDs_dp r e)
  | _, _, _, .lst (ws := ws) hf r, h => by
    cases e : toDs ws with
    | none => simp [toD, e] at h
    | some ds => simp [toD, e] at h; subst h; exact .lst (.inl (.inl hf.1)) (toDs_dp r e)
  | _, _, _, .flst (ws := ws) hf r, h => by
    cases e : toDs ws with
    | none => simp [toD, e] at h
    | some ds => simp [toD, e] at h; subst h; exact .lst (sqF_of hf) (toDs_dp r e)
  | _, _, _, .ty _, h => by cases h
  | _, _, _, .gl _, h => by cases h
  | _, _, _, .ref _, h => by cases h
  | _, _, _, .dic _ _ _, h => by cases h
  | _, _, _, .ins _ _ _ _, h => by cases h
theorem toDs_dp : ∀ {ws : List W} {vs : List V} {ds : List PyData}, RWs K mg ρ H ws vs → toDs ws = some ds → DpAll K H vs ds
  | _, _, _, .nil, h => by cases (Option.some.inj h : [] = _); exact .nil
  | _, _, _, .cons (w := w) (ws := ws) r t, h => by
    cases e1 : toD w with
    | none => simp [toDs, e1] at h
    | some d =>
      cases e2 : toDs ws with
      | none => simp [toDs, e1, e2] at h
      | some ds => simp [toDs, e1, e2] at h; subst h; exact .cons (toD_dp r e1) (toDs_dp t e2)
end
/-- a list of the store is read at its top -/
noncomputable def toDT (S : Store) (w : W) : Option PyData := match w with
  | .ref _ => match seqM S w with
    | some ws => (toDs ws).map .list
    | none => none
  | w => toD w
theorem toDT_dp {w : W} {v : V} {d : PyData} (rep : RepS K mg ρ H S) (r : RW K mg ρ H w v) (h : toDT S w = some d) : Dp K H v d := by
  cases w with
  | ref l =>
    cases e : seqM S (.ref l) with
    | none => simp [toDT, e] at h
    | some ws =>
      obtain ⟨a, vs, rfl, hs, hr⟩ := seqM_of rep r e
      cases e2 : toDs ws with
      | none => simp [toDT, e, e2] at h
      | some ds => simp [toDT, e, e2] at h; subst h; exact .lst (.inl (.inl hs)) (toDs_dp hr e2)
  | _ => exact toD_dp r h
end
noncomputable def xorB (neg b : Bool) : Bool := if neg then !b else b
/-- == (neg: !=) -/
noncomputable def gEq (neg : Bool) (w1 w2 : W) (S : Store) : Res W := match w1, w2 with
  | .str x, .str y => .ok (.bl (xorB neg (decide (x = y)))) S
  | .int x, .int y => .ok (.bl (xorB neg (decide (x = y)))) S
  | .bl x, .bl y => .ok (.bl (xorB neg (decide (x = y)))) S
  | w1, w2 => match toDT S w1, toDT S w2 with
    | some d, some e => if SeqAt.shaped d = true ∧ SeqAt.shaped e = true then .ok (.bl (xorB neg (PyData.eqv d e))) S else .bad
    | _, _ => .bad
section
variable {X : Cx} {E : EK}
theorem gEq_deep {neg : Bool} {w1 w2 : W} {S : Store} (h : (∀ x y, w1 = .str x → w2 = .str y → False) ∧ (∀ x y, w1 = .int x → w2 = .int y → False) ∧ (∀ x y, w1 = .bl x → w2 = .bl y → False)) :
    gEq neg w1 w2 S = match toDT S w1, toDT S w2 with
    | some d, some e => if SeqAt.shaped d = true ∧ SeqAt.shaped e = true then .ok (.bl (xorB neg (PyData.eqv d e))) S else .bad
    | _, _ => .bad := by
  unfold gEq
  split
  · exact (h.1 _ _ rfl rfl).elim
  · exact (h.2.1 _ _ rfl rfl).elim
  · exact (h.2.2 _ _ rfl rfl).elim
  · rfl
theorem om_eqs {op : CmpOp} {neg : Bool} (hs : OpR X (compareOp op) (fun x y H Q => scal x y = true ∧ Q (.bl (xorB neg (decide (x = y)))) H))
    (hd : OpR X (compareOp op) (fun x y H Q => ∃ d e, Dp X.K H x d ∧ Dp X.K H y e ∧ SeqAt.shaped d = true ∧ SeqAt.shaped e = true ∧ Q (.bl (xorB neg (PyData.eqv d e))) H)) : OpM X E (compareOp op) (gEq neg) := by
  intro pins s σ H x y v u Q I rx ry ⟨ρ, S, w1, w2, rep, r1, r2, o⟩
  have deep : (∀ x y, w1 = .str x → w2 = .str y → False) ∧ (∀ x y, w1 = .int x → w2 = .int y → False) ∧ (∀ x y, w1 = .bl x → w2 = .bl y → False) → wpAny (model X.prog X.w) X.A (compareOp op v u) (EP X pins σ Q) X.xe s := fun h => by
    rw [gEq_deep h] at o
    cases e1 : toDT S w1 with
    | none => rw [e1] at o; exact o.elim
    | some d =>
      cases e2 : toDT S w2 with
      | none => rw [e1, e2] at o; exact o.elim
      | some e =>
        rw [e1, e2] at o
        dsimp only at o
        split at o
        · rename_i hz; exact hd pins s σ H x y v u Q I rx ry ⟨d, e, toDT_dp rep r1 e1, toDT_dp rep r2 e2, hz.1, hz.2, Out.here o rep (.bl _)⟩
        · exact o.elim
  cases w1 with
  | str a =>
    cases w2 with
    | str b =>
      cases r1; cases r2
      have e : decide (V.str a = V.str b) = decide (a = b) := by rw [decide_eq_decide]; exact ⟨fun z => V.str.inj z, fun z => by rw [z]⟩
      exact hs pins s σ H _ _ v u Q I rx ry ⟨rfl, by rw [e]; exact Out.here (w := W.bl (xorB neg (decide (a = b)))) o rep (.bl _)⟩
    | _ => exact deep ⟨fun _ _ _ z => (by cases z), fun _ _ z _ => (by cases z), fun _ _ z _ => (by cases z)⟩
  | int a =>
    cases w2 with
    | int b =>
      cases r1; cases r2
      have e : decide (V.int a = V.int b) = decide (a = b) := by rw [decide_eq_decide]; exact ⟨fun z => V.int.inj z, fun z => by rw [z]⟩
      exact hs pins s σ H _ _ v u Q I rx ry ⟨rfl, by rw [e]; exact Out.here (w := W.bl (xorB neg (decide (a = b)))) o rep (.bl _)⟩
    | _ => exact deep ⟨fun _ _ z _ => (by cases z), fun _ _ _ z => (by cases z), fun _ _ z _ => (by cases z)⟩
  | bl a =>
    cases w2 with
    | bl b =>
      cases r1; cases r2
      have e : decide (V.bl a = V.bl b) = decide (a = b) := by rw [decide_eq_decide]; exact ⟨fun z => V.bl.inj z, fun z => by rw [z]⟩
      exact hs pins s σ H _ _ v u Q I rx ry ⟨rfl, by rw [e]; exact Out.here (w := W.bl (xorB neg (decide (a = b)))) o rep (.bl _)⟩
    | _ => exact deep ⟨fun _ _ z _ => (by cases z), fun _ _ z _ => (by cases z), fun _ _ _ z => (by cases z)⟩
  | _ => exact deep ⟨fun _ _ z _ => (by cases z), fun _ _ z _ => (by cases z), fun _ _ z _ => (by cases z)⟩
theorem om_eq (hu : X.A.units + 64 < cLine) : OpM X E (compareOp .Eq) (gEq false) := om_eqs (neg := false) op_eq (op_eqD hu)
theorem om_ne (hu : X.A.units + 64 < cLine) : OpM X E (compareOp .NotEq) (gEq true) := om_eqs (neg := true) op_ne (op_neD hu)
end
noncomputable def flatW : W → Bool
  | .non | .bl _ | .int _ | .str _ => true
  | _ => false
noncomputable def eqF : W → W → Bool
  | .non, .non => true
  | .bl a, .bl b => a == b
  | .bl a, .int b => (if a then 1 else 0) == b
  | .int a, .bl b => a == (if b then 1 else 0)
  | .int a, .int b => a == b
  | .str a, .str b => a == b
  | _, _ => false
noncomputable def inW (x : W) (ws : List W) : Bool := ws.any fun y => eqF y x
noncomputable def tupL : W → Option (List W)
  | .tup ws => some ws
  | _ => none
/-- in (neg: not in): a text in a text; a flat value in a list or tuple of flat ones; data in a list of data -/
noncomputable def gIn (neg : Bool) (w1 w2 : W) (S : Store) : Res W := match w1, w2 with
  | .str x, .str y => .ok (.bl (xorB neg (!(Builtin.Str.occurrences y x 0 y.length 1).isEmpty))) S
  | w1, w2 => match (tupL w2).or (seqL S w2) with
    | some ws => if flatW w1 = true ∧ ws.all flatW = true then .ok (.bl (xorB neg (inW w1 ws))) S else match toD w1, toDs ws with
      | some d, some ds => if (tupL w2).isNone = true ∧ SeqAt.shaped d = true ∧ SeqAt.shaped (.list ds) = true then .ok (.bl (xorB neg (ds.any fun z => PyData.eqv z d))) S else .bad
      | _, _ => .bad
    | none => .bad
section
variable {K : PySem.W.Frag} {mg : Str → Option Value} {ρ : RT} {H : Hp} {S : Store}
theorem flat_of {w : W} {v : V} (r : RW K mg ρ H w v) (h : flatW w = true) : flatV v = true := by
  cases r <;> first | rfl | cases h
theorem flats_of : ∀ {ws : List W} {vs : List V}, RWs K mg ρ H ws vs → ws.all flatW = true → vs.all flatV = true
  | _, _, .nil, _ => rfl
  | _, _, .cons r t, h => by
    rw [List.all_cons, Bool.and_eq_true] at h ⊢
    exact ⟨flat_of r h.1, flats_of t h.2⟩
theorem eqF_of {w w' : W} {v v' : V} (r : RW K mg ρ H w v) (r' : RW K mg ρ H w' v') (h : flatW w = true) (h' : flatW w' = true) : eqV v v' = eqF w w' := by
  cases r <;> first | (cases h; done) | (cases r' <;> first | rfl | (cases h'; done))
theorem inW_of {w : W} {v : V} (r : RW K mg ρ H w v) (h : flatW w = true) : ∀ {ws : List W} {vs : List V}, RWs K mg ρ H ws vs → ws.all flatW = true → inV v vs = inW w ws
  | _, _, .nil, _ => rfl
  | _, _, .cons r1 t, h1 => by
    rw [List.all_cons, Bool.and_eq_true] at h1
    have ih := inW_of r h t h1.2
    unfold inV inW at ih ⊢
    rw [List.any_cons, List.any_cons, eqF_of r1 r h1.1 h, ih]
end
section
variable {X : Cx} {E : EK}
theorem gIn_seq {neg : Bool} {w1 w2 : W} {S : Store} (h : ∀ x y, w1 = .str x → w2 = .str y → False) : gIn neg w1 w2 S = match (tupL w2).or (seqL S w2) with
    | some ws => if flatW w1 = true ∧ ws.all flatW = true then .ok (.bl (xorB neg (inW w1 ws))) S else match toD w1, toDs ws with
      | some d, some ds => if (tupL w2).isNone = true ∧ SeqAt.shaped d = true ∧ SeqAt.shaped (.list ds) = true then .ok (.bl (xorB neg (ds.any fun z => PyData.eqv z d))) S else .bad
      | _, _ => .bad
    | none => .bad := by
  unfold gIn
  split
  · exact (h _ _ rfl rfl).elim
  · rfl
theorem om_ins {op : CmpOp} {neg : Bool} (h1 : OpR X (compareOp op) (fun x y H Q => ∃ i j, x = .str i ∧ y = .str j ∧ Q (.bl (xorB neg (!(Builtin.Str.occurrences j i 0 j.length 1).isEmpty))) H))
    (h2 : OpR X (compareOp op) (rIn X.K neg)) (h3 : OpR X (compareOp op) (fun x y H Q => ∃ d ds, Dp X.K H x d ∧ Dp X.K H y (.list ds) ∧ SeqAt.shaped d = true ∧ SeqAt.shaped (.list ds) = true ∧ Q (.bl (xorB neg (ds.any fun z => PyData.eqv z d))) H)) : OpM X E (compareOp op) (gIn neg) := by
  intro pins s σ H x y v u Q I rx ry ⟨ρ, S, w1, w2, rep, r1, r2, o⟩
  have seq : (∀ x y, w1 = .str x → w2 = .str y → False) → wpAny (model X.prog X.w) X.A (compareOp op v u) (EP X pins σ Q) X.xe s := fun h => by
    rw [gIn_seq h] at o
    cases e0 : (tupL w2).or (seqL S w2) with
    | none => rw [e0] at o; exact o.elim
    | some ws =>
      rw [e0] at o
      dsimp only at o
      have lies : ∃ a vs, y = .ref a ∧ (SqL X.K H a vs ∨ SqT X.K H a vs) ∧ RWs X.K X.mg ρ H ws vs ∧ ((tupL w2).isNone = true → SqL X.K H a vs) := by
        cases w2 with
        | tup us => cases (Option.some.inj e0 : us = ws); cases r2 with | tup hf hr => exact ⟨_, _, rfl, .inr (sqT_of hf), hr, fun z => (by cases z)⟩
        | _ => obtain ⟨a, vs, rfl, hs, hr⟩ := seqL_of rep r2 (by simpa [tupL] using e0); exact ⟨a, vs, rfl, .inl hs, hr, fun _ => hs⟩
      obtain ⟨a, vs, rfl, hs, hr, hl⟩ := lies
      split at o
      · rename_i hz
        have q := Out.here o rep (.bl _)
        rw [← inW_of r1 hz.1 hr hz.2] at q
        exact h2 pins s σ H x _ v u Q I rx ry ⟨a, vs, rfl, hs, flat_of r1 hz.1, flats_of hr hz.2, q⟩
      · cases e1 : toD w1 with
        | none => rw [e1] at o; exact o.elim
        | some d =>
          cases e2 : toDs ws with
          | none => rw [e1, e2] at o; exact o.elim
          | some ds =>
            rw [e1, e2] at o
            dsimp only at o
            split at o
            · rename_i hz
              exact h3 pins s σ H x _ v u Q I rx ry ⟨d, ds, toD_dp r1 e1, .lst (hl hz.1) (toDs_dp hr e2), hz.2.1, hz.2.2, Out.here o rep (.bl _)⟩
            · exact o.elim
  cases w1 with
  | str a =>
    cases w2 with
    | str b => cases r1; cases r2; exact h1 pins s σ H _ _ v u Q I rx ry ⟨a, b, rfl, rfl, Out.here (w := W.bl _) o rep (.bl _)⟩
    | _ => exact seq fun _ _ _ z => by cases z
  | _ => exact seq fun _ _ z _ => by cases z
theorem om_in (hu : X.A.units + 65 < cLine) : OpM X E (compareOp .In) (gIn false) := om_ins (neg := false) op_in_str op_in_seq (op_inD hu)
end
noncomputable def isNonW : W → Bool
  | .non => true
  | _ => false
/-- is (neg: is not): with None, or two bools -/
noncomputable def gIs (neg : Bool) (w1 w2 : W) (S : Store) : Res W := match w2 with
  | .non => .ok (.bl (xorB neg (isNonW w1))) S
  | .bl b => match w1 with
    | .bl a => .ok (.bl (xorB neg (decide (a = b)))) S
    | _ => .bad
  | _ => .bad
section
variable {X : Cx} {E : EK}
theorem om_iss {op : CmpOp} {neg : Bool} (h1 : OpR X (compareOp op) (fun x y H Q => y = .non ∧ Q (.bl (xorB neg (decide (x = .non)))) H)) (h2 : OpR X (compareOp op) (fun x y H Q => ∃ a b : Bool, x = .bl a ∧ y = .bl b ∧ Q (.bl (xorB neg (decide (a = b)))) H)) : OpM X E (compareOp op) (gIs neg) := by
  intro pins s σ H x y v u Q I rx ry ⟨ρ, S, w1, w2, rep, r1, r2, o⟩
  cases w2 with
  | non =>
    cases r2
    have e : decide (x = .non) = isNonW w1 := by cases r1 <;> first | rfl | (exact decide_eq_false (fun z => by cases z))
    exact h1 pins s σ H _ _ v u Q I rx ry ⟨rfl, by rw [e]; exact Out.here (w := W.bl _) o rep (.bl _)⟩
  | bl b =>
    cases w1 with
    | bl a => cases r1; cases r2; exact h2 pins s σ H _ _ v u Q I rx ry ⟨a, b, rfl, rfl, Out.here (w := W.bl _) o rep (.bl _)⟩
    | _ => exact o.elim
  | _ => exact o.elim
theorem om_is : OpM X E (compareOp .Is) (gIs false) := om_iss (neg := false) op_isN op_isBl
end
end RL
end
section
set_option maxRecDepth 100000
set_option maxHeartbeats 2000000
namespace RL
open PySem PySem.Spec L2
open PyProof.Rows hiding St
variable [Lams]
/-! ### a[i], a[lo:hi] -/
noncomputable def gIx (w1 w2 : W) (S : Store) : Res W := match w2 with
  | .int i => match w1 with
    | .str z => if z.length ≤ lim then match atI z.cps.toList i with
      | some c => .ok (.str ⟨#[c]⟩) S
      | none => .bad else .bad
    | .tup ws => match atI ws i with
      | some w => .ok w S
      | none => .bad
    | w => match (seqL S w).bind fun ws => atI ws i with
      | some w => .ok w S
      | none => .bad
  | _ => .bad
theorem atI_rws {K : PySem.W.Frag} {mg : Str → Option Value} {ρ : RT} {H : Hp} {ws : List W} {vs : List V} {i : Int} {w : W} (r : RWs K mg ρ H ws vs) (h : atI ws i = some w) : ∃ v, atI vs i = some v ∧ RW K mg ρ H w v := by
  unfold atI at h ⊢
  rw [r.length] at h
  cases e : ixN vs.length i with
  | none => rw [e] at h; cases h
  | some j =>
    rw [e] at h
    exact r.get (i := j) h
section
variable {X : Cx} {E : EK} {pos p2 : Pos} {a b : Expr} {ma mb : SM W}
theorem ix_all : IxR X (R2M X E gIx) := by
  intro value slice pins s σ H x y v u Q I rx ry ⟨ρ, S, w1, w2, rep, r1, r2, o⟩ hs
  cases w2 with
  | int i =>
    have lists : (∀ w, ((seqL S w1).bind fun ws => atI ws i) = some w → gIx w1 (.int i) S = .ok w S) → (((seqL S w1).bind fun ws => atI ws i) = none → gIx w1 (.int i) S = .bad) → wpAny (model X.prog X.w) X.A (subscriptTail value slice v u) (EP X pins σ Q) X.xe s := fun h1 h2 => by
      cases e : (seqL S w1).bind fun ws => atI ws i with
      | none => rw [h2 e] at o; exact o.elim
      | some w =>
        rw [h1 w e] at o
        cases e1 : seqL S w1 with
        | none => rw [e1] at e; cases e
        | some ws =>
          rw [e1] at e
          obtain ⟨p, vs, rfl, hl, hr⟩ := seqL_of rep r1 e1
          obtain ⟨v', h3, h4⟩ := atI_rws hr e
          cases r2
          exact ix_list value slice pins s σ H _ _ v u Q I rx ry ⟨p, vs, i, v', rfl, rfl, hl, h3, Out.here o rep h4⟩ hs
    cases w1 with
    | str z =>
      have o : Out X.K X.mg (RW X.K X.mg) E ρ H (if z.length ≤ lim then (match atI z.cps.toList i with
        | some c => Res.ok (W.str ⟨#[c]⟩) S
        | none => Res.bad) else Res.bad) Q := o
      split at o
      · rename_i hz
        cases e : atI z.cps.toList i with
        | none => rw [e] at o; exact o.elim
        | some c =>
          rw [e] at o
          cases r1; cases r2
          exact ix_str value slice pins s σ H _ _ v u Q I rx ry ⟨z, i, c, rfl, rfl, lim_line hz, e, Out.here o rep (.str _)⟩ hs
      · exact o.elim
    | tup ws =>
      have o : Out X.K X.mg (RW X.K X.mg) E ρ H (match atI ws i with
        | some w => Res.ok w S
        | none => Res.bad) Q := o
      cases e : atI ws i with
      | none => rw [e] at o; exact o.elim
      | some w =>
        rw [e] at o
        cases r1 with
        | tup hf hr =>
          obtain ⟨v', h3, h4⟩ := atI_rws hr e
          cases r2
          exact ix_tup value slice pins s σ H _ _ v u Q I rx ry ⟨_, _, i, v', rfl, rfl, sqT_of hf, h3, Out.here o rep h4⟩ hs
    | lst ws => exact lists (fun w e => by simp only [gIx, e]) (fun e => by simp only [gIx, e])
    | flst ws => exact lists (fun w e => by simp only [gIx, e]) (fun e => by simp only [gIx, e])
    | ref l => exact lists (fun w e => by simp only [gIx, e]) (fun e => by simp only [gIx, e])
    | _ => exact o.elim
  | _ => exact o.elim
theorem pm_ix (ha : PM X E a ma) (hb : PM X E b mb) (hs : PlainIx b := by exact fun _ _ => rfl) : PM X E (.Subscript a b pos) (mBin gIx ma mb) := pe_imp (pe_ix ix_all ha hb hs) fun _ _ _ h => t2_of h
noncomputable def POM (X : Cx) (E : EK) (e : Option Expr) (m : SM (Option Int)) : Prop := PO X e (tX X.K X.mg (fun _ _ a b => a = b) E m)
noncomputable def mNoPart : SM (Option Int) := fun _ S => .ok none S
noncomputable def mPart (m : SM W) : SM (Option Int) := fun s S => (m s S).bind fun w S1 => match w with
  | .int i => .ok (some i) S1
  | _ => .bad
theorem po_imp {e : Option Expr} {t t' : TO} (h : PO X e t) (f : ∀ σ H Q, t' σ H Q → t σ H Q) : PO X e t' := ⟨fun pins s σ H Q I q => h.run pins s σ H Q I (f σ H Q q)⟩
theorem pom_none : POM X E none mNoPart := po_imp po_none fun σ H Q ⟨ρ, s, S, rep, env, o⟩ => Out.here o rep rfl
theorem pom_some (h : PM X E a ma) : POM X E (some a) (mPart ma) := po_imp (po_some h) fun σ H Q q => tX.bind q fun ρ1 H1 w x s S1 rep env r o => by
  cases w with
  | int i => cases r; exact ⟨i, rfl, Out.here o rep rfl⟩
  | _ => exact o.elim
noncomputable def cutW (xs : List W) (lo hi : Option Int) : List W := (xs.drop (HT.sIx xs.length 0 lo)).take (HT.sIx xs.length xs.length hi - HT.sIx xs.length 0 lo)
theorem RWs.cut {K : PySem.W.Frag} {mg : Str → Option Value} {ρ : RT} {H : Hp} {ws : List W} {vs : List V} (r : RWs K mg ρ H ws vs) (lo hi : Option Int) : RWs K mg ρ H (cutW ws lo hi) (cutV vs lo hi) := by
  unfold cutW cutV
  rw [r.length]
  exact (r.drop _).take _
theorem cutW_whole {ws : List W} {lo hi : Option Int} (h : HT.sIx ws.length 0 lo = 0 ∧ HT.sIx ws.length ws.length hi = ws.length) : cutW ws lo hi = ws := by
  unfold cutW
  rw [h.1, h.2, List.drop_zero, Nat.sub_zero, List.take_length]
noncomputable def gSl (w : W) (lo hi : Option Int) (S : Store) : Res W := match w with
  | .str z => if z.length ≤ lim then .ok (.str (cutS z lo hi)) S else .bad
  | .tup ws => .ok (.tup (cutW ws lo hi)) S
  | w => match seqL S w with
    | some ws => .ok (.lst (cutW ws lo hi)) S
    | none => .bad
theorem sl_all : SlR X (fun x lo hi H Q => ∃ ρ S w, RepS X.K X.mg ρ H S ∧ RW X.K X.mg ρ H w x ∧ Out X.K X.mg (RW X.K X.mg) E ρ H (gSl w lo hi S) Q) := by
  intro pins s σ H x v vl vu lo hi sl Q I rx hs pl pu ⟨ρ, S, w, rep, r, o⟩
  have lists : (∀ ws, seqL S w = some ws → gSl w lo hi S = .ok (.lst (cutW ws lo hi)) S) → (seqL S w = none → gSl w lo hi S = .bad) → ∃ T id, typeLookup (.type T) "__getitem__" = pure (some (.builtin id)) ∧ s.TypeIs v T ∧ wpAny (model X.prog X.w) X.A (getItem v (.ref sl)) (EP X pins σ Q) X.xe s := fun h1 h2 => by
    cases e : seqL S w with
    | none => rw [h2 e] at o; exact o.elim
    | some ws =>
      rw [h1 ws e] at o
      obtain ⟨a, vs, rfl, hl, hr⟩ := seqL_of rep r e
      exact sl_list pins s σ H _ v vl vu lo hi sl Q I rx hs pl pu ⟨a, vs, rfl, hl, fun p hp => out_lst o rep hp (hr.cut lo hi)⟩
  cases w with
  | str z =>
    have o : Out X.K X.mg (RW X.K X.mg) E ρ H (if z.length ≤ lim then Res.ok (W.str (cutS z lo hi)) S else Res.bad) Q := o
    split at o
    · rename_i hz
      cases r
      exact sl_str pins s σ H _ v vl vu lo hi sl Q I rx hs pl pu ⟨z, rfl, lim_line hz, Out.here o rep (.str _)⟩
    · exact o.elim
  | tup ws =>
    cases r with
    | tup hf hr =>
      have o : Out X.K X.mg (RW X.K X.mg) E ρ H (Res.ok (W.tup (cutW ws lo hi)) S) Q := o
      refine sl_tupA pins s σ H _ v vl vu lo hi sl Q I rx hs pl pu ⟨_, _, rfl, sqT_of hf, fun h => ?_, fun _ p hp => out_tup o rep hp (hr.cut lo hi)⟩
      rw [← hr.length] at h
      rw [cutW_whole h] at o
      exact Out.here o rep (.tup hf hr)
  | lst ws => exact lists (fun ws e => by simp only [gSl, e]) (fun e => by simp only [gSl, e])
  | flst ws => exact lists (fun ws e => by simp only [gSl, e]) (fun e => by simp only [gSl, e])
  | ref l => exact lists (fun ws e => by simp only [gSl, e]) (fun e => by simp only [gSl, e])
  | _ => exact o.elim
noncomputable def mSl (ma : SM W) (ml mh : SM (Option Int)) : SM W := fun s S => (ma s S).bind fun w S1 => (ml s S1).bind fun lo S2 => (mh s S2).bind fun hi S3 => gSl w lo hi S3
theorem pm_slice {lo hi : Option Expr} {ml mh : SM (Option Int)} (ha : PM X E a ma) (hl : POM X E lo ml) (hh : POM X E hi mh) : PM X E (.Subscript a (.Slice lo hi none p2) pos) (mSl ma ml mh) :=
  pe_imp (pe_slice sl_all ha hl hh) fun σ H Q h => tX.bind h fun ρ1 H1 w x s S1 rep env r o => ⟨ρ1, s, S1, rep, env, Out.bind o fun ρ2 H2 l l' S2 e2 rep2 r2 o2 => ⟨ρ2, s, S2, rep2, env.ext e2, Out.bind o2 fun ρ3 H3 k k' S3 e3 rep3 r3 o3 => by
    cases r2; cases r3
    exact ⟨ρ3, S3, w, rep3, (r.ext e2).ext e3, o3⟩⟩⟩
/-! ### argument lists, displays -/
variable {es : List Expr} {mr : SM (List W)}
noncomputable def mNil : SM (List W) := fun _ S => .ok [] S
noncomputable def mCons (m : SM W) (mr : SM (List W)) : SM (List W) := fun s S => (m s S).bind fun w S1 => (mr s S1).bind fun ws S2 => .ok (w :: ws) S2
theorem pam_nil : PAM X E [] mNil := pa_imp pa_nil fun σ H Q ⟨ρ, s, S, rep, env, o⟩ => Out.here o rep .nil
theorem pam_cons (ha : PM X E a ma) (hr : PAM X E es mr) (hs : starEach (a :: es) X.env = (false, eval a X.env) :: starEach es X.env := by rfl) : PAM X E (a :: es) (mCons ma mr) :=
  pa_imp (pa_cons ha hr hs) fun σ H Q h => tX.bind h fun ρ1 H1 w x s S1 rep env r o => ⟨ρ1, s, S1, rep, env, Out.bind o fun ρ2 H2 ws xs S2 e2 rep2 r2 o2 => Out.here o2 rep2 (.cons (r.ext e2) r2)⟩
noncomputable def gTup (ws : List W) (S : Store) : Res W := if ws.length ≤ lim then .ok (.tup ws) S else .bad
noncomputable def gLst (ws : List W) (S : Store) : Res W := if ws.length ≤ lim then .ok (.lst ws) S else .bad
/-- a list that will be changed: an object of the store -/
noncomputable def gLstR (ws : List W) (S : Store) : Res W := if ws.length ≤ lim then .ok (.ref S.length) (S ++ [.lst ws]) else .bad
noncomputable def mAp (g : List W → Store → Res W) (mr : SM (List W)) : SM W := fun s S => (mr s S).bind g
theorem pm_tup {k : Nat} (h : PAM X E es mr) : PM X E (.Tuple es k pos) (mAp gTup mr) := pe_imp (pe_tup h) fun σ H Q q => tX.bind q fun ρ1 H1 ws xs s S1 rep env r o => by
  unfold gTup at o
  split at o
  · rename_i hz; exact ⟨by rw [← r.length]; exact lim_line hz, fun p hp => out_tup o rep hp r⟩
  · exact o.elim
theorem pm_lst (h : PAM X E es mr) : PM X E (.List es pos) (mAp gLst mr) := pe_imp (pe_lst h) fun σ H Q q => tX.bind q fun ρ1 H1 ws xs s S1 rep env r o => by
  unfold gLst at o
  split at o
  · rename_i hz; exact ⟨by rw [← r.length]; exact lim_line hz, fun p hp => out_lst o rep hp r⟩
  · exact o.elim
theorem out_new {K : PySem.W.Frag} {mg : Str → Option Value} {ρ : RT} {H : Hp} {S : Store} {E : EK} {Q : VK} {u : Ob} {p : Addr} {o' : HO} (o : Out K mg (RW K mg) E ρ H (.ok (.ref S.length) (S ++ [u])) Q) (rep : RepS K mg ρ H S) (hp : H p = none)
    (mk : Ext ρ H (ρ.snoc p) (upd H p o') → RO K mg (ρ.snoc p) (upd H p o') p u) : Q (.ref p) (upd H p o') := by
  have e := ext_push rep hp o'
  obtain ⟨e', rep'⟩ := rep.push hp (mk e)
  refine o _ _ _ e' rep' (.ref ?_)
  show (ρ.r ++ [p])[S.length]? = some p
  rw [← rep.len, List.getElem?_append_right (Nat.le_refl _), Nat.sub_self] <;> rfl
theorem pm_lstR (h : PAM X E es mr) : PM X E (.List es pos) (mAp gLstR mr) := pe_imp (pe_lst h) fun σ H Q q => tX.bind q fun ρ1 H1 ws xs s S1 rep env r o => by
  unfold gLstR at o
  split at o
  · rename_i hz; exact ⟨by rw [← r.length]; exact lim_line hz, fun p hp => out_new o rep hp fun e => .lst upd_same (r.ext e)⟩
  · exact o.elim
/-! ### calls of built-ins -/
noncomputable def CallM (X : Cx) (E : EK) (f : Value) (g : List W → Store → Res W) : Prop := CallR X f (fun vs H Q => ∃ ρ S ws, RepS X.K X.mg ρ H S ∧ RWs X.K X.mg ρ H ws vs ∧ Out X.K X.mg (RW X.K X.mg) E ρ H (g ws S) Q)
theorem call_of {g : List W → Store → Res W} {σ : L2.St} {H : Hp} {Q : VK} (h : tE X E (mAp g mr) σ H Q) : tCB (fun vs H Q => ∃ ρ S ws, RepS X.K X.mg ρ H S ∧ RWs X.K X.mg ρ H ws vs ∧ Out X.K X.mg (RW X.K X.mg) E ρ H (g ws S) Q) (tA X E mr) σ H Q :=
  tX.bind h fun ρ1 H1 ws xs s S1 rep env r o => ⟨ρ1, S1, ws, rep, r, o⟩
theorem pm_callB {x : Str} {id : String} {p : Pos} {g : List W → Store → Res W} (hc : CallM X E (.builtin id) g) (hm : X.mg x = none) (ha : PAM X E (a :: es) mr) (hv : bootBuiltins x = some (.builtin id) := by decide +kernel) (hg : Gl X x := by rfl) (hn : x ≠ "__name__" := by decide +kernel) (hdb : (x == ("__debug__" : Str)) = false := by decide +kernel)
    (he : starEach (a :: es) X.env = (false, eval a X.env) :: starEach es X.env := by rfl) (hpl : (backTo pos (starEach es X.env)).any (·.1) = false := by rfl) : PM X E (.Call (.Name x p) (a :: es) [] pos) (mAp g mr) := pe_imp (pe_callB hc hg hm hv ha hn hdb he hpl) fun _ _ _ h => call_of h
theorem pm_callTy {x : Str} {T : String} {p : Pos} {g : List W → Store → Res W} (hc : CallM X E (.type T) g) (hm : X.mg x = none) (ha : PAM X E (a :: es) mr) (hv : bootBuiltins x = some (.type T) := by decide +kernel) (hg : Gl X x := by rfl) (hn : x ≠ "__name__" := by decide +kernel) (hdb : (x == ("__debug__" : Str)) = false := by decide +kernel)
    (he : starEach (a :: es) X.env = (false, eval a X.env) :: starEach es X.env := by rfl) (hpl : (backTo pos (starEach es X.env)).any (·.1) = false := by rfl) : PM X E (.Call (.Name x p) (a :: es) [] pos) (mAp g mr) := pe_imp (pe_callTy hc hg hm hv ha hn hdb he hpl) fun _ _ _ h => call_of h
noncomputable def g1 (g : W → Store → Res W) (ws : List W) (S : Store) : Res W := match ws with
  | [w] => g w S
  | _ => .bad
theorem cm1 {f : Value} {g : W → Store → Res W} (h : ∀ (pins : List (Addr × Obj)) (s : Shared) (σ : L2.St) (H : Hp) (x : V) (us : List Value) (Q : VK) (ρ : RT) (S : Store) (w : W), Inv X pins σ H s → Vals [x] us → RepS X.K X.mg ρ H S → RW X.K X.mg ρ H w x → Out X.K X.mg (RW X.K X.mg) E ρ H (g w S) Q →
    wpAny (model X.prog X.w) X.A (call f us) (EP X pins σ Q) X.xe s) : CallM X E f (g1 g) := by
  intro pins s σ H xs us Q I r ⟨ρ, S, ws, rep, rs, o⟩
  match ws, rs, o with
  | [], _, o => exact o.elim
  | _ :: _ :: _, _, o => exact o.elim
  | [w], rs, o =>
    obtain ⟨x, rfl, rw⟩ := rs.one
    exact h pins s σ H x us Q ρ S w I r rep rw o
/-- len -/
noncomputable def gLen (w : W) (S : Store) : Res W := match w with
  | .str x => if x.length ≤ lim then .ok (.int x.length) S else .bad
  | .tup ws => .ok (.int ws.length) S
  | w => match seqL S w with
    | some ws => .ok (.int ws.length) S
    | none => .bad
theorem cm_len : CallM X E (.builtin "len") (g1 gLen) := cm1 fun pins s σ H x us Q ρ S w I r rep rw o => by
  have lists : (∀ ws, seqL S w = some ws → gLen w S = .ok (.int ws.length) S) → (seqL S w = none → gLen w S = .bad) → wpAny (model X.prog X.w) X.A (call (.builtin "len") us) (EP X pins σ Q) X.xe s := fun h1 h2 => by
    cases e : seqL S w with
    | none => rw [h2 e] at o; exact o.elim
    | some ws =>
      rw [h1 ws e] at o
      obtain ⟨a, vs, rfl, hl, hr⟩ := seqL_of rep rw e
      rw [hr.length] at o
      exact call_len_seq pins s σ H _ us Q I r ⟨a, vs, rfl, .inl hl, Out.here o rep (.int _)⟩
  cases w with
  | str z =>
    have o : Out X.K X.mg (RW X.K X.mg) E ρ H (if z.length ≤ lim then Res.ok (W.int z.length) S else Res.bad) Q := o
    split at o
    · rename_i hz
      cases rw
      exact call_len_str pins s σ H _ us Q I r ⟨z, rfl, lim_line hz, Out.here o rep (.int _)⟩
    · exact o.elim
  | tup ws =>
    cases rw with
    | tup hf hr =>
      have o : Out X.K X.mg (RW X.K X.mg) E ρ H (Res.ok (W.int ws.length) S) Q := o
      rw [hr.length] at o
      exact call_len_seq pins s σ H _ us Q I r ⟨_, _, rfl, .inr (sqT_of hf), Out.here o rep (.int _)⟩
  | lst ws => exact lists (fun ws e => by simp only [gLen, e]) (fun e => by simp only [gLen, e])
  | flst ws => exact lists (fun ws e => by simp only [gLen, e]) (fun e => by simp only [gLen, e])
  | ref l => exact lists (fun ws e => by simp only [gLen, e]) (fun e => by simp only [gLen, e])
  | _ => exact o.elim
/-- int(n), int(flag) -/
noncomputable def gInt (w : W) (S : Store) : Res W := match w with
  | .int i => .ok (.int i) S
  | .bl b => .ok (.int (if b then 1 else 0)) S
  | _ => .bad
theorem cm_int : CallM X E (.type "int") (g1 gInt) := cm1 fun pins s σ H x us Q ρ S w I r rep rw o => by
  cases w with
  | int i => cases rw; exact call_int1 pins s σ H _ us Q I r (.inl ⟨i, rfl, Out.here (w := W.int _) o rep (.int _)⟩)
  | bl b => cases rw; exact call_int1 pins s σ H _ us Q I r (.inr ⟨b, rfl, Out.here (w := W.int _) o rep (.int _)⟩)
  | _ => exact o.elim
/-- list(x), tuple(x) of a list or tuple -/
noncomputable def seqA (S : Store) (w : W) : Option (List W) := (tupL w).or (seqL S w)
theorem seqA_of {K : PySem.W.Frag} {mg : Str → Option Value} {ρ : RT} {H : Hp} {S : Store} {w : W} {x : V} {ws : List W} (rep : RepS K mg ρ H S) (r : RW K mg ρ H w x) (h : seqA S w = some ws) : ∃ a vs, x = .ref a ∧ (SqL K H a vs ∨ SqT K H a vs) ∧ RWs K mg ρ H ws vs ∧ (w ≠ .tup ws → SqL K H a vs) ∧ (w = .tup ws → SqT K H a vs) := by
  cases w with
  | tup us =>
    cases (Option.some.inj h : us = ws)
    cases r with | tup hf hr => exact ⟨_, _, rfl, .inr (sqT_of hf), hr, fun n => absurd rfl n, fun _ => sqT_of hf⟩
  | _ => obtain ⟨a, vs, rfl, hs, hr⟩ := seqL_of rep r (by simpa [seqA, tupL] using h); exact ⟨a, vs, rfl, .inl hs, hr, fun _ => hs, fun z => by cases z⟩
noncomputable def gListOf (w : W) (S : Store) : Res W := match seqA S w with
  | some ws => .ok (.lst ws) S
  | none => .bad
theorem cm_list : CallM X E (.type "list") (g1 gListOf) := cm1 fun pins s σ H x us Q ρ S w I r rep rw o => by
  unfold gListOf at o
  cases e : seqA S w with
  | none => rw [e] at o; exact o.elim
  | some ws =>
    rw [e] at o
    obtain ⟨a, vs, rfl, hl, hr, _⟩ := seqA_of rep rw e
    exact call_list_of pins s σ H _ us Q I r ⟨a, vs, rfl, hl, fun p hp => out_lst o rep hp hr⟩
noncomputable def gTupOf (w : W) (S : Store) : Res W := match seqA S w with
  | some ws => .ok (.tup ws) S
  | none => .bad
theorem cm_tuple : CallM X E (.type "tuple") (g1 gTupOf) := cm1 fun pins s σ H x us Q ρ S w I r rep rw o => by
  unfold gTupOf at o
  cases e : seqA S w with
  | none => rw [e] at o; exact o.elim
  | some ws =>
    rw [e] at o
    cases w with
    | tup us' =>
      cases (Option.some.inj e : us' = ws)
      cases rw with | tup hf hr => exact call_tuple_of pins s σ H _ us Q I r ⟨_, _, rfl, .inr ⟨sqT_of hf, Out.here o rep (.tup hf hr)⟩⟩
    | _ =>
      obtain ⟨a, vs, rfl, hs, hr⟩ := seqL_of rep rw (by simpa [seqA, tupL] using e)
      exact call_tuple_of pins s σ H _ us Q I r ⟨a, vs, rfl, .inl ⟨hs, fun p hp => out_tup o rep hp hr⟩⟩
/-- all(xs), any(xs), xs a list of bools -/
noncomputable def blsW : List W → Option (List Bool)
  | [] => some []
  | .bl b :: r => (blsW r).map (b :: ·)
  | _ => none
theorem blsW_of {K : PySem.W.Frag} {mg : Str → Option Value} {ρ : RT} {H : Hp} : ∀ {ws : List W} {vs : List V} {bs : List Bool}, RWs K mg ρ H ws vs → blsW ws = some bs → vs = bs.map V.bl
  | _, _, _, .nil, h => by cases (Option.some.inj h : [] = _); rfl
  | _, _, _, .cons (w := w) (ws := ws) r t, h => by
    cases w with
    | bl b =>
      cases e : blsW ws with
      | none => simp [blsW, e] at h
      | some bs =>
        simp [blsW, e] at h
        subst h
        cases r
        rw [blsW_of t e]
        rfl
    | _ => cases h
noncomputable def gAll (w : W) (S : Store) : Res W := match (seqL S w).bind blsW with
  | some bs => .ok (.bl (bs.all id)) S
  | none => .bad
theorem bls_at {K : PySem.W.Frag} {mg : Str → Option Value} {ρ : RT} {H : Hp} {S : Store} {w : W} {x : V} {bs : List Bool} (rep : RepS K mg ρ H S) (r : RW K mg ρ H w x) (h : (seqL S w).bind blsW = some bs) : ∃ a, x = .ref a ∧ SqL K H a (bs.map V.bl) := by
  cases e : seqL S w with
  | none => rw [e] at h; cases h
  | some ws =>
    rw [e] at h
    obtain ⟨a, vs, rfl, hl, hr⟩ := seqL_of rep r e
    rw [blsW_of hr h] at hl
    exact ⟨a, rfl, hl⟩
theorem cm_all (hc : X.calm = true) : CallM X E (.builtin "all") (g1 gAll) := cm1 fun pins s σ H x us Q ρ S w I r rep rw o => by
  unfold gAll at o
  cases e : (seqL S w).bind blsW with
  | none => rw [e] at o; exact o.elim
  | some bs =>
    rw [e] at o
    obtain ⟨a, rfl, hl⟩ := bls_at rep rw e
    exact cr_all hc pins s σ H _ us Q I r ⟨a, bs, rfl, hl, Out.here o rep (.bl _)⟩
end
/-! ### isinstance -/
/-- the type of a value -/
noncomputable def tyOf (S : Store) : W → Option W
  | .non => some (.ty "NoneType")
  | .bl _ => some (.ty "bool")
  | .int _ => some (.ty "int")
  | .str _ => some (.ty "str")
  | .tup _ => some (.ty "tuple")
  | .lst _ => some (.ty "list")
  | .flst _ => some (.ty "list")
  | .dic _ _ => some (.ty "dict")
  | .ins c _ _ => some (.gl c)
  | .ref l => match S[l]? with
    | some (.lst _) => some (.ty "list")
    | some (.dic _ _) => some (.ty "dict")
    | some (.ins c _ _) => some (.gl c)
    | some (.tab _) => none
    | none => none
  | _ => none
inductive TyVal (mg : Str → Option Value) : W → Value → Prop where
  | ty (n : String) : TyVal mg (.ty n) (.type n)
  | gl {x : Str} {a : Addr} (h : mg x = some (.ref a)) : TyVal mg (.gl x) (.ref a)
/-- whether a value of the type t is one of c; the answers that are known -/
noncomputable abbrev KT := W → W → Option Bool
structure KtOk (K : PySem.W.Frag) (mg : Str → Option Value) (kt : KT) : Prop where
  one : ∀ t c b tv cv, kt t c = some b → TyVal mg t tv → TyVal mg c cv → PySem.W.kitOne K tv cv = some b
  ins : ∀ c C, mg c = some (.ref C) → (∃ d b, kt (.gl c) d = some b) → Cls K C ∧ PySem.W.findIn K (.ref C) "__class__" = some (some (.builtin "object.__class__")) ∧
    PySem.W.specialIn K (.builtin "object.__class__") "__get__" = some (some (.builtin "getset_descriptor.__get__")) ∧ PySem.W.takesIn K (.builtin "object.__class__") = some true ∧ PySem.W.mroIn K C (.type "object") = some true
noncomputable def ktAny (kt : KT) (t : W) : List W → Option Bool
  | [] => some false
  | c :: cs => match kt t c with
    | some true => some true
    | some false => ktAny kt t cs
    | none => none
/-- the built-in types among one another -/
noncomputable def ktB : KT
  | .ty a, .ty b => if a ∈ ["NoneType", "bool", "int", "str", "tuple", "list", "dict"] ∧ b ∈ ["bool", "int", "str", "tuple", "list", "dict"] then some (a == b || (a == "bool" && b == "int")) else none
  | _, _ => none
theorem kitB_all : ∀ a ∈ ["NoneType", "bool", "int", "str", "tuple", "list", "dict"], ∀ b ∈ ["bool", "int", "str", "tuple", "list", "dict"], kitB a b = some (a == b || (a == "bool" && b == "int")) := by decide +kernel
theorem ktB_ok {K : PySem.W.Frag} {mg : Str → Option Value} : KtOk K mg ktB where
  one := fun t c b tv cv h ht hc => by
    cases ht with
    | ty n =>
      cases hc with
      | ty m =>
        unfold ktB at h
        dsimp only at h
        split at h
        · rename_i hz
          cases (Option.some.inj h)
          exact kit_ty (kitB_all n hz.1 m hz.2)
        · cases h
      | gl _ => cases h
    | gl _ => cases h
  ins := fun c C _ ⟨d, b, h⟩ => by cases h
noncomputable def isCls : W → Bool
  | .ty _ | .gl _ => true
  | _ => false
noncomputable def gIsi1 (kt : KT) (w c : W) (S : Store) : Res W := match tyOf S w with
  | none => .bad
  | some t => if isCls c = true then (match kt t c with
      | some b => .ok (.bl b) S
      | none => .bad) else match tupL c with
    | some (d :: ds) => if (d :: ds).all isCls = true then (match kt t d, ktAny kt t (d :: ds) with
      | some _, some b => .ok (.bl b) S
      | _, _ => .bad) else .bad
    | _ => .bad
noncomputable def gIsi (kt : KT) (ws : List W) (S : Store) : Res W := match ws with
  | [w, c] => gIsi1 kt w c S
  | _ => .bad
section
variable {K : PySem.W.Frag} {mg : Str → Option Value} {ρ : RT} {H : Hp} {S : Store}
theorem tyOf_of {kt : KT} (T : KtOk K mg kt) {w : W} {x : V} {t d : W} {b : Bool} (rep : RepS K mg ρ H S) (r : RW K mg ρ H w x) (h : tyOf S w = some t) (hk : kt t d = some b) : ∃ tv, TyVal mg t tv ∧ TyX K H x tv := by
  cases w with
  | non => cases r; cases h; exact ⟨_, .ty _, .base .non⟩
  | bl b => cases r; cases h; exact ⟨_, .ty _, .base (.bl _)⟩
  | int b => cases r; cases h; exact ⟨_, .ty _, .base (.int _)⟩
  | str b => cases r; cases h; exact ⟨_, .ty _, .base (.str _)⟩
  | tup ws =>
    cases h
    cases r with
    | tup hf hr =>
      rcases hf with hf | ⟨o, its, n, h1, h2, _⟩
      · exact ⟨_, .ty _, .base (.tup hf.1)⟩
      · exact ⟨_, .ty _, .kTuple h1 h2⟩
  | lst ws => cases h; cases r with | lst hf hr => exact ⟨_, .ty _, .base (.lst hf.1)⟩
  | flst ws =>
    cases h
    cases r with
    | flst hf hr =>
      rcases hf with ⟨o, hf⟩ | ⟨o, its, n, h1, h2, _⟩
      · exact ⟨_, .ty _, .base (.frz hf.1)⟩
      · exact ⟨_, .ty _, .kList h1 h2⟩
  | dic ks ws => cases h; cases r with | dic hf hl hr => exact hf.elim fun _ z => ⟨_, .ty _, .fDict z.1⟩
  | ins c ns ws =>
    cases h
    cases r with
    | ins hc hf hl hr =>
      obtain ⟨h1, h2, h3, h4, h5⟩ := T.ins _ _ hc ⟨_, _, hk⟩
      exact ⟨_, .gl hc, .base (.ins hf.1 h1 h2 h3 h4 h5)⟩
  | ref l =>
    cases r with
    | ref hl =>
      cases e : S[l]? with
      | none => simp [tyOf, e] at h
      | some ob =>
        obtain ⟨a, h1, h2⟩ := rep.ob l _ e
        rw [hl] at h1; cases h1
        cases h2 with
        | lst h3 h4 => simp [tyOf, e] at h; subst h; exact ⟨_, .ty _, .base (.lst h3)⟩
        | dic h3 h4 h5 => simp [tyOf, e] at h; subst h; exact ⟨_, .ty _, .base (.dK h3)⟩
        | ins hc h3 h4 h5 =>
          simp [tyOf, e] at h; subst h
          obtain ⟨g1, g2, g3, g4, g5⟩ := T.ins _ _ hc ⟨_, _, hk⟩
          exact ⟨_, .gl hc, .base (.ins h3 g1 g2 g3 g4 g5)⟩
        | tab _ _ _ _ => simp [tyOf, e] at h
  | _ => cases h
theorem clsV_of {c : W} {x : V} (r : RW K mg ρ H c x) {kt : KT} {t : W} {b : Bool} (T : KtOk K mg kt) (hc : (∃ n, c = .ty n) ∨ ∃ n, c = .gl n) : ∃ cv, TyVal mg c cv ∧ ClsV x cv := by
  rcases hc with ⟨n, rfl⟩ | ⟨n, rfl⟩
  · cases r; exact ⟨_, .ty n, .ty n⟩
  · cases r with | gl h => exact ⟨_, .gl h, .own _⟩
theorem ktAny_of {kt : KT} (T : KtOk K mg kt) {t : W} {tv : Value} (ht : TyVal mg t tv) : ∀ {cs : List W} {xs : List V} {b : Bool}, RWs K mg ρ H cs xs → (∀ c ∈ cs, (∃ n, c = .ty n) ∨ ∃ n, c = .gl n) → ktAny kt t cs = some b → ∃ cvs, Paired ClsV xs cvs ∧ PySem.W.kitAny K tv cvs = some b
  | _, _, b, .nil, _, h => by cases (Option.some.inj h : false = b); exact ⟨[], .nil, kitAny_nil⟩
  | _, _, b, .cons (w := c) (ws := cs) (vs := vs') r rs, hk, h => by
    obtain ⟨cv, h1, h2⟩ := clsV_of (kt := kt) (t := t) (b := b) r T (hk c List.mem_cons_self)
    unfold ktAny at h
    cases e : kt t c with
    | none => rw [e] at h; cases h
    | some k =>
      have hone := T.one t c k tv cv e ht h1
      have rest : ∃ cvs, Paired ClsV vs' cvs ∧ (k = false → PySem.W.kitAny K tv cvs = some b) := by
        cases k with
        | false =>
          rw [e] at h
          obtain ⟨cvs, p1, p2⟩ := ktAny_of T ht rs (fun c hc => hk c (List.mem_cons_of_mem _ hc)) h
          exact ⟨cvs, p1, fun _ => p2⟩
        | true =>
          have : ∀ {cs : List W} {xs : List V}, RWs K mg ρ H cs xs → (∀ c ∈ cs, (∃ n, c = .ty n) ∨ ∃ n, c = .gl n) → ∃ cvs, Paired ClsV xs cvs := by
            intro cs xs r hk
            induction cs generalizing xs with
            | nil => cases r; exact ⟨[], .nil⟩
            | cons c cs ih =>
              cases r with
              | cons r1 r2 =>
                obtain ⟨cv, _, z⟩ := clsV_of (kt := kt) (t := t) (b := b) r1 T (hk c List.mem_cons_self)
                obtain ⟨cvs, zs⟩ := ih r2 fun c hc => hk c (List.mem_cons_of_mem _ hc)
                exact ⟨cv :: cvs, .cons z zs⟩
          obtain ⟨cvs, p1⟩ := this rs fun c hc => hk c (List.mem_cons_of_mem _ hc)
          exact ⟨cvs, p1, fun z => by cases z⟩
      obtain ⟨cvs, p1, p2⟩ := rest
      refine ⟨cv :: cvs, .cons h2 p1, kitAny_cons hone p2 fun z => ?_⟩
      subst z
      rw [e] at h
      exact (Option.some.inj h).symm
end
theorem isCls_of {c : W} (h : isCls c = true) : (∃ n, c = .ty n) ∨ ∃ n, c = .gl n := by
  cases c with
  | ty n => exact .inl ⟨n, rfl⟩
  | gl n => exact .inr ⟨n, rfl⟩
  | _ => cases h
section
variable {X : Cx} {E : EK}
/-- the classes are built-in types or classes of the module -/
theorem cm_isi {kt : KT} (T : KtOk X.K X.mg kt) : CallM X E (.builtin "isinstance") (gIsi kt) := by
  intro pins s σ H xs us Q I r ⟨ρ, S, ws, rep, rs, o⟩
  match ws, rs, o with
  | [], _, o => exact o.elim
  | [_], _, o => exact o.elim
  | _ :: _ :: _ :: _, _, o => exact o.elim
  | [w, c], rs, o =>
    obtain ⟨x, y, rfl, r1, r2⟩ := rs.two
    have o : Out X.K X.mg (RW X.K X.mg) E ρ H (gIsi1 kt w c S) Q := o
    unfold gIsi1 at o
    cases e1 : tyOf S w with
    | none => rw [e1] at o; exact o.elim
    | some t =>
      rw [e1] at o
      dsimp only at o
      split at o
      · rename_i hc
        cases e3 : kt t c with
        | none => rw [e3] at o; exact o.elim
        | some b =>
          rw [e3] at o
          obtain ⟨tv, h1, h2⟩ := tyOf_of T rep r1 e1 e3
          obtain ⟨cv, h3, h4⟩ := clsV_of (kt := kt) (t := t) (b := b) r2 T (isCls_of hc)
          exact call_isi pins s σ H _ us Q I r ⟨x, y, tv, cv, b, rfl, h4, h2, T.one t c b tv cv e3 h1 h3, Out.here o rep (.bl _)⟩
      · cases c with
        | tup cs =>
          cases cs with
          | nil => exact o.elim
          | cons d ds =>
            have o : Out X.K X.mg (RW X.K X.mg) E ρ H (if (d :: ds).all isCls = true then (match kt t d, ktAny kt t (d :: ds) with
              | some _, some b => .ok (.bl b) S
              | _, _ => .bad) else .bad) Q := o
            split at o
            · rename_i hall
              cases e2 : kt t d with
              | none => rw [e2] at o; exact o.elim
              | some k =>
                cases e3 : ktAny kt t (d :: ds) with
                | none => rw [e2, e3] at o; exact o.elim
                | some b =>
                  rw [e2, e3] at o
                  obtain ⟨tv, h1, h2⟩ := tyOf_of T rep r1 e1 e2
                  cases r2 with
                  | tup hf hr =>
                    obtain ⟨cvs, h3, h4⟩ := ktAny_of T h1 hr (fun c hc => isCls_of (List.all_eq_true.mp hall c hc)) e3
                    rcases hf with hf | ⟨ob, its, n, g1, g2, g3, g4, g5⟩
                    · exact call_isiT pins s σ H _ us Q I r ⟨x, _, _, tv, cvs, b, rfl, hf.1, h3, h2, h4, Out.here o rep (.bl _)⟩
                    · have ee : its.toList = cvs := ClsV.all h3 g5
                      subst ee
                      obtain ⟨oc, od, dt, sl⟩ := ob
                      simp only at g2 g3
                      subst g2 g3
                      exact call_isiK pins s σ H _ us Q I r ⟨x, _, od, its.toList, n, sl, tv, b, rfl, by simpa using g1, h2, h4, Out.here o rep (.bl _)⟩
            · exact o.elim
        | _ => exact o.elim
end
end RL
end
section
set_option maxRecDepth 100000
set_option maxHeartbeats 2000000
namespace RL
open PySem PySem.Spec L2
open PyProof.Rows hiding St
variable [Lams]
/-! ### statements -/
inductive Fl where
  | nx | rt (w : W) | bk | ct
noncomputable abbrev SS := SM (Fl × Env')
section
variable (K : PySem.W.Frag) (mg : Str → Option Value)
noncomputable def OutS (E : EK) (ρ : RT) (H : Hp) (r : Res (Fl × Env')) (D : Ends) : Prop := match r with
  | .ok (f, s') S' => match f with
    | .nx => ∀ ρ' H' σ', Ext ρ H ρ' H' → RepS K mg ρ' H' S' → REnv K mg ρ' H' E s' σ' → D.nx σ' H'
    | .rt w => ∀ ρ' H' v, Ext ρ H ρ' H' → RepS K mg ρ' H' S' → RW K mg ρ' H' w v → D.rt v H'
    | .bk => ∀ ρ' H' σ', Ext ρ H ρ' H' → RepS K mg ρ' H' S' → REnv K mg ρ' H' E s' σ' → D.bk σ' H'
    | .ct => ∀ ρ' H' σ', Ext ρ H ρ' H' → RepS K mg ρ' H' S' → REnv K mg ρ' H' E s' σ' → D.ct σ' H'
  | .exc c ns ws S => ExcOut K mg E ρ H c ns ws S
  | .bad => False
end
noncomputable def tS (X : Cx) (E : EK) (m : SS) : TS := fun D σ H => ∃ ρ s S, RepS X.K X.mg ρ H S ∧ REnv X.K X.mg ρ H E s σ ∧ OutS X.K X.mg E ρ H (m s S) D
noncomputable def PSM (X : Cx) (E : EK) (st : Stmt) (m : SS) : Prop := PS X st (tS X E m)
noncomputable def PSsM (X : Cx) (E : EK) (st : List Stmt) (m : SS) : Prop := PSs X st (tS X E m)
theorem ps_imp {X : Cx} {st : Stmt} {t t' : TS} (h : PS X st t) (f : ∀ D σ H, t' D σ H → t D σ H) : PS X st t' := ⟨fun pins s σ H D I q => h.run pins s σ H D I (f D σ H q)⟩
theorem pss_imp {X : Cx} {st : List Stmt} {t t' : TS} (h : PSs X st t) (f : ∀ D σ H, t' D σ H → t D σ H) : PSs X st t' := ⟨fun pins s σ H D I q => h.run pins s σ H D I (f D σ H q)⟩
section
variable {K : PySem.W.Frag} {mg : Str → Option Value} {ρ ρ' : RT} {H H' : Hp} {E : EK} {α β : Type}
theorem OutS.ext {r : Res (Fl × Env')} {D : Ends} (e : Ext ρ H ρ' H') (h : OutS K mg E ρ H r D) : OutS K mg E ρ' H' r D := by
  cases r with
  | ok p S =>
    obtain ⟨f, s'⟩ := p
    cases f with
    | nx => exact fun ρ2 H2 σ2 x => h ρ2 H2 σ2 (e.trans x)
    | rt w => exact fun ρ2 H2 σ2 x => h ρ2 H2 σ2 (e.trans x)
    | bk => exact fun ρ2 H2 σ2 x => h ρ2 H2 σ2 (e.trans x)
    | ct => exact fun ρ2 H2 σ2 x => h ρ2 H2 σ2 (e.trans x)
  | exc c ns ws S => exact ExcOut.ext e h
  | bad => exact h
/-- an expression's (target's) part ahead of the rest of a statement -/
theorem OutS.bind {R : Rl β α} {r : Res α} {k : α → Store → Res (Fl × Env')} {D : Ends} {Z : β → Hp → Prop} (h : OutS K mg E ρ H (r.bind k) D)
    (f : ∀ ρ1 H1 a b S1, Ext ρ H ρ1 H1 → RepS K mg ρ1 H1 S1 → R ρ1 H1 a b → OutS K mg E ρ1 H1 (k a S1) D → Z b H1) : Out K mg R E ρ H r Z := by
  cases r with
  | ok w S => exact fun ρ1 H1 v e rep rw => f ρ1 H1 w v S e rep rw (OutS.ext e h)
  | exc c ns ws S => exact h
  | bad => exact h
end
theorem tS.bind {X : Cx} {E : EK} {α β : Type} {R : Rl β α} {m : SM α} {k : α → SS} {D : Ends} {σ : L2.St} {H : Hp} {Z : β → Hp → Prop} (h : tS X E (fun s S => (m s S).bind fun a => k a s) D σ H)
    (f : ∀ ρ1 H1 a b s S1, RepS X.K X.mg ρ1 H1 S1 → REnv X.K X.mg ρ1 H1 E s σ → R ρ1 H1 a b → OutS X.K X.mg E ρ1 H1 (k a s S1) D → Z b H1) : tX X.K X.mg R E m σ H Z := by
  obtain ⟨ρ, s, S, rep, env, o⟩ := h
  exact ⟨ρ, s, S, rep, env, OutS.bind o fun ρ1 H1 a b S1 e rep1 r o1 => f ρ1 H1 a b s S1 rep1 (env.ext e) r o1⟩
theorem OutS.nx {X : Cx} {E : EK} {ρ : RT} {H : Hp} {s : Env'} {S : Store} {D : Ends} {σ : L2.St} (o : OutS X.K X.mg E ρ H (.ok (.nx, s) S) D) (rep : RepS X.K X.mg ρ H S) (env : REnv X.K X.mg ρ H E s σ) : D.nx σ H := o ρ H σ (Ext.refl _ _) rep env
noncomputable def mSkip : SS := fun s S => .ok (.nx, s) S
noncomputable def mSeq (m ms : SS) : SS := fun s S => (m s S).bind fun p S1 => match p with
  | (.nx, s1) => ms s1 S1
  | p => .ok p S1
section
variable {X : Cx} {E : EK} {pos : Pos} {st : Stmt} {sts : List Stmt} {m ms : SS} {a : Expr} {ma : SM W}
theorem psm_nil : PSsM X E [] mSkip := pss_imp pss_nil fun D σ H ⟨ρ, s, S, rep, env, o⟩ => OutS.nx o rep env
theorem psm_cons (h : PSM X E st m) (hs : PSsM X E sts ms) : PSsM X E (st :: sts) (mSeq m ms) := pss_imp (pss_cons h hs) fun D σ H ⟨ρ, s, S, rep, env, o⟩ => by
  refine ⟨ρ, s, S, rep, env, ?_⟩
  unfold mSeq at o
  cases e : m s S with
  | ok p S1 =>
    obtain ⟨f, s1⟩ := p
    rw [e] at o
    cases f with
    | nx => exact fun ρ1 H1 σ1 x rep1 env1 => ⟨ρ1, s1, S1, rep1, env1, OutS.ext x o⟩
    | rt w => exact o
    | bk => exact o
    | ct => exact o
  | exc c ns ws S1 => rw [e] at o; exact o
  | bad => rw [e] at o; exact o
theorem psm_one (h : PSM X E st m) : PSsM X E [st] m := pss_imp (pss_one h) fun D σ H q => q
noncomputable def mExpr (ma : SM W) : SS := fun s S => (ma s S).bind fun _ S1 => .ok (.nx, s) S1
theorem psm_expr (ha : PM X E a ma) (hs : swapsWith a none pos.line X.env = pure false := by rfl) : PSM X E (.Expr a pos) (mExpr ma) :=
  ps_imp (ps_expr ha hs) fun D σ H h => tS.bind h fun ρ1 H1 w x s S1 rep env r o => OutS.nx o rep env
noncomputable def mRet (ma : SM W) : SS := fun s S => (ma s S).bind fun w S1 => .ok (.rt w, s) S1
theorem psm_ret (ha : PM X E a ma) : PSM X E (.Return (some a) pos) (mRet ma) := ps_imp (ps_ret ha) fun D σ H h => tS.bind h fun ρ1 H1 w x s S1 rep env r o => o ρ1 H1 x (Ext.refl _ _) rep r
noncomputable def mIf (nc : SM Bool) (m ms : SS) : SS := fun s S => (nc s S).bind fun b S1 => if b = true then m s S1 else ms s S1
theorem psm_if {c : Expr} {nc : SM Bool} {A B : List Stmt} (hc : PTM X E c nc) (ha : PSsM X E A m) (hb : PSsM X E B ms) : PSM X E (.If c A B pos) (mIf nc m ms) :=
  ps_imp (ps_if hc ha hb) fun D σ H h => tS.bind h fun ρ1 H1 k k' s S1 rep env r o => by
    cases r
    cases k with
    | true => rw [if_pos rfl] at o; rw [if_pos rfl]; exact ⟨ρ1, s, S1, rep, env, o⟩
    | false => rw [if_neg Bool.false_ne_true] at o; rw [if_neg Bool.false_ne_true]; exact ⟨ρ1, s, S1, rep, env, o⟩
end
theorem Out.conv {K : PySem.W.Frag} {mg : Str → Option Value} {α β : Type} {R R' : Rl β α} {E : EK} {ρ : RT} {H : Hp} {r : Res α} {Q : β → Hp → Prop} (h : Out K mg R E ρ H r Q) (f : ∀ ρ1 H1 a b, R' ρ1 H1 a b → R ρ1 H1 a b) : Out K mg R' E ρ H r Q := by
  cases r with
  | ok w S => exact fun ρ1 H1 v e rep rr => h ρ1 H1 v e rep (f _ _ _ _ rr)
  | exc c ns ws S => exact h
  | bad => exact h
/-! ### targets; vs: the slots that a target may change -/
noncomputable abbrev GM := W → Env' → Store → Res Env'
noncomputable def tG (X : Cx) (E : EK) (vs : List Nat) (g : GM) : TG := fun v σ H Q => ∃ ρ s S w, RepS X.K X.mg ρ H S ∧ REnv X.K X.mg ρ H E s σ ∧ RW X.K X.mg ρ H w v ∧ Out X.K X.mg (fun ρ H s' σ' => REnv X.K X.mg ρ H E s' σ' ∧ wipe σ' vs = wipe σ vs) E ρ H (g w s S) Q
noncomputable def PGM (X : Cx) (E : EK) (tg : Expr) (vs : List Nat) (g : GM) : Prop := PG X tg (tG X E vs g)
noncomputable abbrev GMs := List W → Env' → Store → Res Env'
noncomputable def tGs (X : Cx) (E : EK) (vs : List Nat) (g : GMs) : TGs := fun v σ H Q => ∃ ρ s S w, RepS X.K X.mg ρ H S ∧ REnv X.K X.mg ρ H E s σ ∧ RWs X.K X.mg ρ H w v ∧ Out X.K X.mg (fun ρ H s' σ' => REnv X.K X.mg ρ H E s' σ' ∧ wipe σ' vs = wipe σ vs) E ρ H (g w s S) Q
noncomputable def PGsM (X : Cx) (E : EK) (tg : List Expr) (vs : List Nat) (g : GMs) : Prop := PGs X tg (tGs X E vs g)
theorem pg_imp {X : Cx} {e : Expr} {t t' : TG} (h : PG X e t) (f : ∀ v σ H Q, t' v σ H Q → t v σ H Q) : PG X e t' := ⟨fun pins s σ H v u Q I r q => h.run pins s σ H v u Q I r (f v σ H Q q)⟩
theorem pgs_imp {X : Cx} {e : List Expr} {t t' : TGs} (h : PGs X e t) (f : ∀ v σ H Q, t' v σ H Q → t v σ H Q) : PGs X e t' := ⟨fun pins s σ H v u Q I r q => h.run pins s σ H v u Q I r (f v σ H Q q)⟩
theorem wipe_set {σ : L2.St} {i : Nat} {o : Option V} : ∀ {vs : List Nat}, i ∈ vs → wipe (σ.set i o) vs = wipe σ vs
  | v :: vs, h => by
    unfold wipe
    by_cases e : i = v
    · subst e
      by_cases hm : i ∈ vs
      · rw [wipe_set hm]
      · have : ∀ {vs : List Nat}, i ∉ vs → wipe (σ.set i o) vs = (wipe σ vs).set i o := by
          intro vs hn
          induction vs with
          | nil => rfl
          | cons k r ih =>
            unfold wipe
            rw [ih fun z => hn (List.mem_cons_of_mem _ z), List.set_comm _ _ (fun z => hn (by first | (rw [z]; exact List.mem_cons_self) | (rw [← z]; exact List.mem_cons_self)))]
        rw [this hm, List.set_set]
    · rw [wipe_set ((List.mem_cons.mp h).resolve_left e)]
noncomputable def gNm (i : Nat) : GM := fun w s S => .ok (s.set i (some w)) S
section
variable {X : Cx} {E : EK} {pos : Pos} {a b o i : Expr} {ma mo mi : SM W} {vs : List Nat}
theorem pgm_name (i : Nat) {x : Str} (hN : X.N.Nodup) (hm : i ∈ vs := by simp) (hi : X.N[i]? = some x := by rfl) (hx : Loc X.env.scope x := by first | exact Or.inl rfl | exact Or.inr rfl) (hf : X.fn x = true ∨ X.env.scope.names.lookup x = some .local := by first | exact .inl rfl | exact .inr rfl) : PGM X E (.Name x pos) vs (gNm i) :=
  pg_imp (pg_name hN hi hx hf) fun v σ H Q ⟨ρ, s, S, w, rep, env, r, o⟩ => Out.here o rep ⟨env.set i r, wipe_set hm⟩
noncomputable def gNil : GMs := fun ws s S => match ws with
  | [] => .ok s S
  | _ => .bad
noncomputable def gCons (g : GM) (gs : GMs) : GMs := fun ws s S => match ws with
  | w :: r => (g w s S).bind fun s1 S1 => gs r s1 S1
  | [] => .bad
theorem pgm_nil : PGsM X E [] vs gNil := pgs_imp pgs_nil fun v σ H Q ⟨ρ, s, S, w, rep, env, r, o⟩ => by
  cases r with
  | nil => exact ⟨rfl, Out.here o rep ⟨env, rfl⟩⟩
  | cons _ _ => exact o.elim
theorem pgm_cons {e : Expr} {es : List Expr} {g : GM} {gs : GMs} (h1 : PGM X E e vs g) (h2 : PGsM X E es vs gs) (hs : (assignEach (e :: es) X.env).map (·.2) = assign e X.env :: (assignEach es X.env).map (·.2) := by rfl) : PGsM X E (e :: es) vs (gCons g gs) :=
  pgs_imp (pgs_cons h1 h2 hs) fun v σ H Q ⟨ρ, s, S, w, rep, env, r, o⟩ => by
    cases r with
    | nil => exact o.elim
    | cons r rs =>
      refine ⟨_, _, rfl, ρ, s, S, _, rep, env, r, Out.bind o fun ρ1 H1 s1 σ1 S1 e rep1 hh o1 => ⟨ρ1, s1, S1, _, rep1, hh.1, rs.ext e, ?_⟩⟩
      exact o1.conv fun ρ2 H2 s2 σ2 h2 => ⟨h2.1, h2.2.trans hh.2⟩
/-- a, b, .. = a tuple of that length -/
noncomputable def gTp (n : Nat) (gs : GMs) : GM := fun w s S => match w with
  | .tup ws => if ws.length = n then gs ws s S else .bad
  | _ => .bad
theorem pgm_tup {es : List Expr} {k n : Nat} {gs : GMs} (hc : X.calm = true) (h : PGsM X E es vs gs) (hn : (assignEach es X.env).length = n := by rfl) (hst : (assignEach es X.env).findIdx? (·.1) = none := by rfl) : PGM X E (.Tuple es k pos) vs (gTp n gs) :=
  pg_imp (pg_tup hc h hn hst) fun v σ H Q ⟨ρ, s, S, w, rep, env, r, o⟩ => by
    cases w with
    | tup ws =>
      cases r with
      | tup hf hr =>
        have o : Out X.K X.mg (fun ρ H s' σ' => REnv X.K X.mg ρ H E s' σ' ∧ wipe σ' vs = wipe σ vs) E ρ H (if ws.length = n then gs ws s S else .bad) Q := o
        split at o
        · rename_i hz; exact ⟨_, _, rfl, sqT_of hf, by rw [← hr.length]; exact hz, ρ, s, S, ws, rep, env, hr, o⟩
        · exact o.elim
    | _ => exact o.elim
noncomputable def mAsg (ma : SM W) (g : GM) : SS := fun s S => (ma s S).bind fun w S1 => (g w s S1).bind fun s' S2 => .ok (.nx, s') S2
theorem asg_of {g : GM} {D : Ends} {σ : L2.St} {H : Hp} (h : tS X E (mAsg ma g) D σ H) : tAsg (tE X E ma) (tG X E vs g) D σ H :=
  tS.bind h fun ρ1 H1 w x s S1 rep env r o => ⟨ρ1, s, S1, w, rep, env, r, OutS.bind o fun ρ2 H2 s' σ' S2 e rep2 hh o2 => OutS.nx o2 rep2 hh.1⟩
theorem psm_asg {tg : Expr} {g : GM} (ha : PM X E a ma) (hg : PGM X E tg vs g) (hs : swapsWithSole [tg] a pos.line X.env = pure false := by rfl) (hw : swappedStores [tg] a X.env = pure none := by rfl) (h1 : (assignEach [tg] X.env).map (·.2) = [assign tg X.env] := by rfl) : PSM X E (.Assign [tg] a pos) (mAsg ma g) :=
  ps_imp (ps_asg ha hg hs hw (h1 := h1)) fun D σ H h => asg_of h
/-- x = e -/
theorem psm_set (i : Nat) {x : Str} {p : Pos} (ha : PM X E a ma) (hN : X.N.Nodup) (hi : X.N[i]? = some x := by rfl) (hx : Loc X.env.scope x := by first | exact Or.inl rfl | exact Or.inr rfl) (hs : swapsWith a (some (.Name x p)) pos.line X.env = pure false := by rfl)
    (hf : X.fn x = true ∨ X.env.scope.names.lookup x = some .local := by first | exact .inl rfl | exact .inr rfl) : PSM X E (.Assign [.Name x p] a pos) (mAsg ma (gNm i)) :=
  ps_imp (ps_set hN hi hx ha hs hf) fun D σ H h => tS.bind h fun ρ1 H1 w x s S1 rep env r o => OutS.nx (s := s.set i (some w)) o rep (env.set i r)
/-- a, b = x, y (plain local names) -/
noncomputable def mPar (i j : Nat) (mr : SM (List W)) : SS := fun s S => (mr s S).bind fun ws S1 => match ws with
  | [v, w] => .ok (.nx, (s.set i (some v)).set j (some w)) S1
  | _ => .bad
theorem psm_par (i j : Nat) {x y : Str} {mr : SM (List W)} {px py pt : Pos} {kt k2 pt2} (hc : X.calm = true) (hN : X.N.Nodup) (ha : PAM X E [a, b] mr) (hi : X.N[i]? = some x := by rfl) (hj : X.N[j]? = some y := by rfl) (hij : i ≠ j := by decide)
    (hx : X.env.scope.names.lookup x = some .local := by rfl) (hy : X.env.scope.names.lookup y = some .local := by rfl)
    (hw : swappedStores [.Tuple [.Name x px, .Name y py] kt pt] (.Tuple [a, b] k2 pt2) X.env = pure (some [x, y]) := by rfl)
    (hs : swapsWithSole [.Tuple [.Name x px, .Name y py] kt pt] (.Tuple [a, b] k2 pt2) pos.line X.env = pure false := by rfl) : PSM X E (.Assign [.Tuple [.Name x px, .Name y py] kt pt] (.Tuple [a, b] k2 pt2) pos) (mPar i j mr) :=
  ps_imp (ps_par hc hN hi hj hij hx hy ha hw hs) fun D σ H h => tS.bind h fun ρ1 H1 ws xs s S1 rep env r o => by
    match ws, r, o with
    | [], _, o => exact o.elim
    | [_], _, o => exact o.elim
    | _ :: _ :: _ :: _, _, o => exact o.elim
    | [v, w], r, o =>
      obtain ⟨v', w', rfl, r1, r2⟩ := r.two
      exact ⟨_, _, rfl, OutS.nx o rep ((env.set i r1).set j r2)⟩
noncomputable def mPar3 (i j l : Nat) (mr : SM (List W)) : SS := fun s S => (mr s S).bind fun ws S1 => match ws with
  | [u, v, w] => .ok (.nx, ((s.set i (some u)).set j (some v)).set l (some w)) S1
  | _ => .bad
theorem psm_par3 (i j l : Nat) {x y z : Str} {c : Expr} {mr : SM (List W)} {px py pz pt : Pos} {kt k2 pt2} (hc : X.calm = true) (hN : X.N.Nodup) (ha : PAM X E [a, b, c] mr) (hi : X.N[i]? = some x := by rfl) (hj : X.N[j]? = some y := by rfl) (hl : X.N[l]? = some z := by rfl) (hij : i ≠ j := by decide) (hil : i ≠ l := by decide) (hjl : j ≠ l := by decide)
    (hx : X.env.scope.names.lookup x = some .local := by rfl) (hy : X.env.scope.names.lookup y = some .local := by rfl) (hz : X.env.scope.names.lookup z = some .local := by rfl)
    (hw : swappedStores [.Tuple [.Name x px, .Name y py, .Name z pz] kt pt] (.Tuple [a, b, c] k2 pt2) X.env = pure (some [x, y, z]) := by rfl)
    (hs : swapsWithSole [.Tuple [.Name x px, .Name y py, .Name z pz] kt pt] (.Tuple [a, b, c] k2 pt2) pos.line X.env = pure false := by rfl) : PSM X E (.Assign [.Tuple [.Name x px, .Name y py, .Name z pz] kt pt] (.Tuple [a, b, c] k2 pt2) pos) (mPar3 i j l mr) :=
  ps_imp (ps_par3 hc hN hi hj hl hij hil hjl hx hy hz ha hw hs) fun D σ H h => tS.bind h fun ρ1 H1 ws xs s S1 rep env r o => by
    match ws, r, o with
    | [], _, o => exact o.elim
    | [_], _, o => exact o.elim
    | [_, _], _, o => exact o.elim
    | _ :: _ :: _ :: _ :: _, _, o => exact o.elim
    | [u, v, w], r, o =>
      cases r with
      | cons r0 rr =>
        obtain ⟨v', w', rfl, r1, r2⟩ := rr.two
        exact ⟨_, _, _, rfl, OutS.nx o rep (((env.set i r0).set j r1).set l r2)⟩
/-- o[i] = e, o a list of the store -/
noncomputable def gSetI (o i v : W) (S : Store) : Res Unit := match o with
  | .ref l => match i with
    | .int k => match S[l]? with
      | some (.lst ws) => match ixN ws.length k with
        | some j => .ok () (S.set l (.lst (ws.set j v)))
        | none => .bad
      | _ => .bad
    | _ => .bad
  | _ => .bad
noncomputable def gSubI (mo mi : SM W) : GM := fun v s S => (mo s S).bind fun o S1 => (mi s S1).bind fun i S2 => (gSetI o i v S2).bind fun _ S3 => .ok s S3
theorem set_all : PSet X (fun o i v H Q => ∃ ρ S w1 w2 w3, RepS X.K X.mg ρ H S ∧ RW X.K X.mg ρ H w1 o ∧ RW X.K X.mg ρ H w2 i ∧ RW X.K X.mg ρ H w3 v ∧ Out X.K X.mg (fun _ _ (_ : Unit) (_ : Unit) => True) E ρ H (gSetI w1 w2 w3 S) (fun _ H' => Q H')) := by
  intro pins s σ H o i v ov iv u Q I ro ri rv ⟨ρ, S, w1, w2, w3, rep, r1, r2, r3, out⟩
  cases w1 with
  | ref l =>
    cases w2 with
    | int k =>
      cases r1 with
      | @ref l a hl =>
        cases e : S[l]? with
        | none => simp only [gSetI, e] at out; exact out.elim
        | some ob =>
          cases ob with
          | lst ws =>
            cases e2 : ixN ws.length k with
            | none => simp only [gSetI, e, e2] at out; exact out.elim
            | some j =>
              simp only [gSetI, e, e2] at out
              obtain ⟨a', h1, h2⟩ := rep.ob l _ e
              rw [hl] at h1; cases h1
              cases h2 with
              | @lst vs _ h3 h4 =>
                cases r2
                refine set_list pins s σ H _ _ _ ov iv u Q I ro ri rv ⟨a, vs, k, j, rfl, rfl, h3, by rw [← h4.length]; exact e2, ?_⟩
                have ma : a ∈ ρ.r := List.mem_of_getElem? hl
                have ex : Ext ρ H ρ (upd H a (.lst (vs.set j v))) := ⟨fun _ _ h => h, fun _ h => h, fun _ h => .inl h, fun b u hb n => by rw [upd_ne fun z : b = a => n (by rw [z]; exact ma)]; exact hb, fun _ h => .inl h, fun b _ hb => by
                  by_cases hz : b = a
                  · subst hz; rw [upd_same]; simp
                  · rw [upd_ne hz]; exact hb, rfl⟩
                obtain ⟨e3, rep3⟩ := rep.wr hl (o := .lst (vs.set j v)) (u := .lst (ws.set j w3)) (.lst upd_same ((h4.set r3 j).ext ex))
                exact out ρ _ () e3 rep3 True.intro
          | _ => simp only [gSetI, e] at out; exact out.elim
    | _ => exact out.elim
  | _ => exact out.elim
theorem pgm_sub (ho : PM X E o mo) (hi : PM X E i mi)
    (ha : ∀ v, assign (.Subscript o i pos) X.env v = (do
      let ov ← holding [v] (eval o X.env)
      let iv ← holding [v, ov] (eval i X.env)
      standAt pos
      holding [v, ov, iv] (setItem ov iv v)
      release [v, ov, iv] []) := by intros; rfl) : PGM X E (.Subscript o i pos) vs (gSubI mo mi) :=
  pg_imp (pg_sub ho hi set_all ha) fun v σ H Q ⟨ρ, s, S, w, rep, env, r, out⟩ => ⟨ρ, s, S, rep, env, Out.bind out fun ρ1 H1 w1 x1 S1 e1 rep1 r1 o1 => ⟨ρ1, s, S1, rep1, env.ext e1, Out.bind o1 fun ρ2 H2 w2 x2 S2 e2 rep2 r2 o2 => ⟨ρ2, S2, w1, w2, w, rep2, r1.ext e2, r2, (r.ext e1).ext e2, Out.bind o2 fun ρ3 H3 _ _ S3 e3 rep3 _ o3 => Out.here o3 rep3 ⟨((env.ext e1).ext e2).ext e3, rfl⟩⟩⟩⟩
/-- x op= e -/
noncomputable def mAug (i : Nat) (g : W → W → Store → Res W) (ma : SM W) : SS := fun s S => match s[i]? with
  | some (some x) => (ma s S).bind fun y S1 => (g x y S1).bind fun z S2 => .ok (.nx, s.set i (some z)) S2
  | _ => .bad
end
/-! ### while -/
/-! ### what a for walks -/
/-- J walks the items ws, whatever happens beside -/
noncomputable def RIt (K : PySem.W.Frag) (mg : Str → Option Value) : Rl It (List W) := fun ρ H ws J => ∀ ρ' H' S', Ext ρ H ρ' H' → RepS K mg ρ' H' S' → ∀ i : Nat,
  (∀ w, ws[i]? = some w → J.go i H' ∧ ∀ x H2, J.yld i H' x H2 → Ext ρ' H' ρ' H2 ∧ RepS K mg ρ' H2 S' ∧ RW K mg ρ' H2 w x) ∧ (ws.length = i → J.stop i H')
theorem pi_imp {X : Cx} {tg e : Expr} {t t' : TI} (h : PI X tg e t) (f : ∀ σ H R, t' σ H R → t σ H R) : PI X tg e t' := ⟨fun pins s σ H R I q => h.run pins s σ H R I (f σ H R q)⟩
/-- the items of a list (no object of the store) -/
noncomputable def itL : W → Option (List W)
  | .lst ws => some ws
  | .flst ws => some ws
  | _ => none
section
variable {K : PySem.W.Frag} {mg : Str → Option Value} {ρ ρ' : RT} {H H' : Hp} {S : Store}
theorem itL_of {w : W} {x : V} {ws : List W} (r : RW K mg ρ H w x) (h : itL w = some ws) : ∃ a vs, x = .ref a ∧ RWs K mg ρ H ws vs ∧ ∀ ρ' H', Ext ρ H ρ' H' → SqL K H' a vs := by
  cases w with
  | lst us => cases h; cases r with | lst hf hr => exact ⟨_, _, rfl, hr, fun ρ' H' e => .inl (.inl (hf.ext e).1)⟩
  | flst us => cases h; cases r with | flst hf hr => exact ⟨_, _, rfl, hr, fun ρ' H' e => sqF_of (hf.imp (fun ⟨o, z⟩ => ⟨o, z.ext e⟩) id)⟩
  | _ => cases h
theorem tup_still {a : Addr} {vs : List V} (h : Fx ρ H a (.tup vs) ∨ KTup K a vs) (e : Ext ρ H ρ' H') : SqT K H' a vs := sqT_of (h.imp (fun z => z.ext e) id)
theorem rit_list {a : Addr} {ws : List W} {vs : List V} (r : RWs K mg ρ H ws vs) (hl : ∀ ρ' H', Ext ρ H ρ' H' → SqL K H' a vs) : RIt K mg ρ H ws (Itl K a) := fun ρ' H' S' e rep i => by
  refine ⟨fun w hw => ?_, fun hi => ⟨vs, hl _ _ e, by rw [← r.length, hi]; exact Nat.le_refl _⟩⟩
  obtain ⟨v, h1, h2⟩ := r.get hw
  refine ⟨⟨vs, v, hl _ _ e, h1⟩, fun x H2 hy => ?_⟩
  obtain ⟨rfl, hy⟩ := hy
  have : v = x := Option.some.inj (h1.symm.trans (hy vs (hl _ _ e)))
  subst this
  exact ⟨Ext.refl _ _, rep, h2.ext e⟩
theorem rit_tup {a : Addr} {ws : List W} {vs : List V} (r : RWs K mg ρ H ws vs) (hl : ∀ ρ' H', Ext ρ H ρ' H' → SqT K H' a vs) : RIt K mg ρ H ws (Itt K a) := fun ρ' H' S' e rep i => by
  refine ⟨fun w hw => ?_, fun hi => ⟨vs, hl _ _ e, by rw [← r.length, hi]; exact Nat.le_refl _⟩⟩
  obtain ⟨v, h1, h2⟩ := r.get hw
  refine ⟨⟨vs, v, hl _ _ e, h1⟩, fun x H2 hy => ?_⟩
  obtain ⟨rfl, hy⟩ := hy
  have : v = x := Option.some.inj (h1.symm.trans (hy vs (hl _ _ e)))
  subst this
  exact ⟨Ext.refl _ _, rep, h2.ext e⟩
noncomputable def rngW (lo : Int) (n : Nat) : List W := (List.range n).map fun (i : Nat) => .int (lo + i)
theorem rngW_len (lo : Int) (n : Nat) : (rngW lo n).length = n := by simp [rngW]
theorem rngW_get {lo : Int} {n i : Nat} {w : W} (h : (rngW lo n)[i]? = some w) : i < n ∧ w = .int (lo + i) := by
  unfold rngW at h
  rw [List.getElem?_map] at h
  cases e : (List.range n)[i]? with
  | none => rw [e] at h; cases h
  | some j =>
    rw [e] at h
    obtain ⟨h1, h2⟩ := List.getElem?_eq_some_iff.mp e
    rw [List.getElem_range] at h2
    subst h2
    exact ⟨by simpa using h1, (Option.some.inj h).symm⟩
theorem rit_range {lo : Int} {n : Nat} : RIt K mg ρ H (rngW lo n) (Itr lo n) := fun ρ' H' S' e rep i => by
  refine ⟨fun w hw => ?_, fun hi => by rw [rngW_len] at hi; exact Nat.le_of_eq hi⟩
  obtain ⟨h1, rfl⟩ := rngW_get hw
  refine ⟨h1, fun x H2 hy => ?_⟩
  obtain ⟨rfl, rfl⟩ := hy
  exact ⟨Ext.refl _ _, rep, .int _⟩
noncomputable def signs (x : Str) : List W := x.cps.toList.map fun c => .str ⟨#[c]⟩
theorem rit_str {x : Str} : RIt K mg ρ H (signs x) (Its x) := fun ρ' H' S' e rep i => by
  refine ⟨fun w hw => ?_, fun hi => by unfold signs at hi; rw [List.length_map, Array.length_toList] at hi; exact Nat.le_of_eq hi⟩
  unfold signs at hw
  rw [List.getElem?_map] at hw
  cases e2 : x.cps.toList[i]? with
  | none => rw [e2] at hw; cases hw
  | some c =>
    rw [e2] at hw
    cases (Option.some.inj hw)
    refine ⟨(by simpa using (List.getElem?_eq_some_iff.mp e2).1 : i < x.cps.size), fun y H2 hy => ?_⟩
    obtain ⟨rfl, c', h1, rfl⟩ := hy
    have : c = c' := by
      rw [Array.getElem?_toList] at e2
      exact Option.some.inj (e2.symm.trans h1)
    subst this
    exact ⟨Ext.refl _ _, rep, .str _⟩
theorem rw_pair {T : Addr} {w1 w2 : W} {x y : V} (rep : RepS K mg ρ H S) (hT : H T = none) (r1 : RW K mg ρ H w1 x) (r2 : RW K mg ρ H w2 y) : Ext ρ H ρ (upd H T (.tup [x, y])) ∧ RepS K mg ρ (upd H T (.tup [x, y])) S ∧ RW K mg ρ (upd H T (.tup [x, y])) (.tup [w1, w2]) (.ref T) := by
  obtain ⟨e, rep'⟩ := rep.tree hT (.tup [x, y])
  exact ⟨e, rep', .tup (.inl (fx_new rep hT _)) (.cons (r1.ext e) (.cons (r2.ext e) .nil))⟩
noncomputable def zipW (ws us : List W) : List W := (ws.zip us).map fun p => .tup [p.1, p.2]
theorem zipW_get {ws us : List W} {i : Nat} {w : W} (h : (zipW ws us)[i]? = some w) : ∃ a b, ws[i]? = some a ∧ us[i]? = some b ∧ w = .tup [a, b] := by
  unfold zipW at h
  rw [List.getElem?_map] at h
  cases e : (ws.zip us)[i]? with
  | none => rw [e] at h; cases h
  | some p =>
    rw [e] at h
    obtain ⟨h1, h2⟩ := List.getElem?_zip_eq_some.mp e
    exact ⟨p.1, p.2, h1, h2, (Option.some.inj h).symm⟩
theorem rit_zipL {a b : Addr} {ws us : List W} {vs xs : List V} (r : RWs K mg ρ H ws vs) (r' : RWs K mg ρ H us xs) (hl : ∀ ρ' H', Ext ρ H ρ' H' → SqL K H' a vs) (hl' : ∀ ρ' H', Ext ρ H ρ' H' → SqL K H' b xs) : RIt K mg ρ H (zipW ws us) (Itz K a b) := fun ρ' H' S' e rep i => by
  refine ⟨fun w hw => ?_, fun hi => ⟨vs, xs, hl _ _ e, hl' _ _ e, ?_⟩⟩
  · obtain ⟨w1, w2, h1, h2, rfl⟩ := zipW_get hw
    obtain ⟨v1, g1, q1⟩ := r.get h1
    obtain ⟨v2, g2, q2⟩ := r'.get h2
    refine ⟨⟨vs, xs, v1, v2, hl _ _ e, hl' _ _ e, g1, g2⟩, fun x H2 hy => ?_⟩
    obtain ⟨T, x1, x2, rfl, hT, rfl, f1, f2⟩ := hy
    have e1 : v1 = x1 := Option.some.inj (g1.symm.trans (f1 vs (hl _ _ e)))
    have e2 : v2 = x2 := Option.some.inj (g2.symm.trans (f2 xs (hl' _ _ e)))
    subst e1 e2
    exact rw_pair rep hT (q1.ext e) (q2.ext e)
  · unfold zipW at hi
    rw [List.length_map, List.length_zip] at hi
    rw [← r.length, ← r'.length]
    omega
theorem rit_zipT {a b : Addr} {ws us : List W} {vs xs : List V} (r : RWs K mg ρ H ws vs) (r' : RWs K mg ρ H us xs) (hl : ∀ ρ' H', Ext ρ H ρ' H' → SqT K H' a vs) (hl' : ∀ ρ' H', Ext ρ H ρ' H' → SqT K H' b xs) : RIt K mg ρ H (zipW ws us) (RZ.ItzT K a b) := fun ρ' H' S' e rep i => by
  refine ⟨fun w hw => ?_, fun hi => ⟨vs, xs, hl _ _ e, hl' _ _ e, ?_⟩⟩
  · obtain ⟨w1, w2, h1, h2, rfl⟩ := zipW_get hw
    obtain ⟨v1, g1, q1⟩ := r.get h1
    obtain ⟨v2, g2, q2⟩ := r'.get h2
    refine ⟨⟨vs, xs, v1, v2, hl _ _ e, hl' _ _ e, g1, g2⟩, fun x H2 hy => ?_⟩
    obtain ⟨T, x1, x2, rfl, hT, rfl, f1, f2⟩ := hy
    have e1 : v1 = x1 := Option.some.inj (g1.symm.trans (f1 vs (hl _ _ e)))
    have e2 : v2 = x2 := Option.some.inj (g2.symm.trans (f2 xs (hl' _ _ e)))
    subst e1 e2
    exact rw_pair rep hT (q1.ext e) (q2.ext e)
  · unfold zipW at hi
    rw [List.length_map, List.length_zip] at hi
    rw [← r.length, ← r'.length]
    omega
end
end RL
end
section
set_option maxRecDepth 100000
set_option maxHeartbeats 2000000
namespace RL
open PySem PySem.Spec L2
open PyProof.Rows hiding St
variable [Lams]
/-! ### iterators: fixed items, or a list of the store as it stands at each turn -/
inductive ItW where
  | fix (ws : List W)
  | gen (nx : Nat → Store → Option (Option W))
noncomputable def RI (K : PySem.W.Frag) (mg : Str → Option Value) : Rl It ItW := fun ρ H it J => match it with
  | .fix ws => RIt K mg ρ H ws J
  | .gen nx => ∀ ρ' H' S', Ext ρ H ρ' H' → RepS K mg ρ' H' S' → ∀ i : Nat, match nx i S' with
    | none => True
    | some none => J.stop i H'
    | some (some w) => J.go i H' ∧ ∀ x H2, J.yld i H' x H2 → Ext ρ' H' ρ' H2 ∧ RepS K mg ρ' H2 S' ∧ RW K mg ρ' H2 w x
noncomputable def PIM' (X : Cx) (E : EK) (tg iter : Expr) (mi : SM ItW) : Prop := PI X tg iter (tX X.K X.mg (RI X.K X.mg) E mi)
/-- the list at place l of the store -/
noncomputable def lstAt (S : Store) (l : Nat) : Option (List W) := match S[l]? with
  | some (.lst ws) => some ws
  | _ => none
theorem lstAt_of {K : PySem.W.Frag} {mg : Str → Option Value} {ρ : RT} {H : Hp} {S : Store} {l : Nat} {a : Addr} {ws : List W} (rep : RepS K mg ρ H S) (hl : ρ.r[l]? = some a) (h : lstAt S l = some ws) : ∃ vs, H a = some (.lst vs) ∧ RWs K mg ρ H ws vs := by
  unfold lstAt at h
  cases e : S[l]? with
  | none => rw [e] at h; cases h
  | some ob =>
    cases ob with
    | lst us =>
      rw [e] at h
      cases (Option.some.inj h : us = ws)
      obtain ⟨a', h1, h2⟩ := rep.ob l _ e
      rw [hl] at h1; cases h1
      cases h2 with | lst h3 h4 => exact ⟨_, h3, h4⟩
    | _ => rw [e] at h; cases h
/-- a list of the store, as it stands at each turn -/
noncomputable def nxL (l : Nat) : Nat → Store → Option (Option W) := fun i S => (lstAt S l).map fun ws => ws[i]?
theorem ri_dyn {K : PySem.W.Frag} {mg : Str → Option Value} {ρ : RT} {H : Hp} {l : Nat} {a : Addr} (hl : ρ.r[l]? = some a) : RI K mg ρ H (.gen (nxL l)) (Itl K a) := by
  intro ρ' H' S' e rep i
  unfold nxL
  cases e1 : lstAt S' l with
  | none => trivial
  | some us =>
    obtain ⟨vs', h1, h2⟩ := lstAt_of rep (e.pre _ _ hl) e1
    dsimp only [Option.map_some]
    cases e2 : us[i]? with
    | none =>
      have hle : vs'.length ≤ i := by rw [← h2.length]; exact List.getElem?_eq_none_iff.mp e2
      exact ⟨vs', .inl (.inl h1), hle⟩
    | some w =>
      obtain ⟨v, g1, g2⟩ := h2.get e2
      refine ⟨⟨vs', v, .inl (.inl h1), g1⟩, fun x H2 hy => ?_⟩
      obtain ⟨rfl, hy⟩ := hy
      have ev : v = x := Option.some.inj (g1.symm.trans (hy vs' (.inl (.inl h1))))
      subst ev
      exact ⟨Ext.refl _ _, rep, g2⟩
noncomputable def mItems (m : SM W) : SM ItW := fun s S => (m s S).bind fun w S1 => match w with
  | .lst ws => .ok (.fix ws) S1
  | .flst ws => .ok (.fix ws) S1
  | .tup ws => .ok (.fix ws) S1
  | .str x => .ok (.fix (signs x)) S1
  | .ref l => match lstAt S1 l with
    | some _ => .ok (.gen (nxL l)) S1
    | none => .bad
  | _ => .bad
noncomputable def iAny (K : PySem.W.Frag) (te : TE) : TI := fun σ H R => te σ H fun x H1 => (∃ a, x = .ref a ∧ (∃ xs, SqL K H1 a xs) ∧ R (Itl K a) H1) ∨ (∃ a, x = .ref a ∧ (∃ xs, SqT K H1 a xs) ∧ R (Itt K a) H1) ∨ ∃ z, x = .str z ∧ R (Its z) H1
section
variable {X : Cx} {E : EK} {pos : Pos} {tg a b : Expr} {ma : SM W} {es : List Expr}
theorem pi_any {te : TE} (ha : PE X a te) : PI X tg a (iAny X.K te) := by
  refine ⟨fun pins s σ H R I h => ?_⟩
  refine thn (ha.run pins s σ H _ I h) fun v s1 ⟨x, H1, I1, r1, q1⟩ => ?_
  rcases q1 with ⟨p, e, ⟨xs, hq⟩, q⟩ | ⟨p, e, ⟨xs, hq⟩, q⟩ | ⟨z, e, q⟩
  · subst e
    cases r1
    obtain ⟨its, rv, pp, hz⟩ := I1.list hq
    refine wpAny_pyIter_list pp.isList ?_
    refine ⟨s1.heap.objs.size, [s1.heap.objs.size], _, _, H1, rfl, I1.kept (t' := s1.toks) fun b o e => Heap.get?_push_of_some _ e, turn_list p _, ⟨_, Heap.get?_push_size _ rfl, rfl, rfl⟩, fun b hb => ?_, q⟩
    have e : b = s1.heap.objs.size := by simpa using hb
    subst e
    exact I1.fpOk (Nat.le_refl _) (I1.hok.fresh (Nat.le_refl _))
  · subst e
    cases r1
    obtain ⟨its, rv, pp, hz⟩ := I1.tuple hq
    refine wpAny_pyIter_tuple (show s1.heap.IsTuple p its.toArray from pp) ?_
    refine ⟨s1.heap.objs.size, [s1.heap.objs.size], _, _, H1, rfl, I1.kept (t' := s1.toks) fun b o e => Heap.get?_push_of_some _ e, turn_tuple p _, ⟨_, Heap.get?_push_size _ rfl, rfl, rfl⟩, fun b hb => ?_, q⟩
    have e : b = s1.heap.objs.size := by simpa using hb
    subst e
    exact I1.fpOk (Nat.le_refl _) (I1.hok.fresh (Nat.le_refl _))
  · subst e
    obtain ⟨t, rfl⟩ := r1
    cases ha : z.cps.all (· < 128)
    · exact wpAny_pyIter_wide ha (pi_one (tk := s1.toks) I1 _ (turn_str _ z t "str_iterator" (.inr rfl)) ⟨_, Heap.get?_push_size _ rfl, rfl, rfl⟩ q)
    · exact wpAny_pyIter_ascii ha (pi_one (tk := s1.toks) I1 _ (turn_str _ z t "str_ascii_iterator" (.inl rfl)) ⟨_, Heap.get?_push_size _ rfl, rfl, rfl⟩ q)
theorem pim_any (ha : PM X E a ma) : PIM' X E tg a (mItems ma) := pi_imp (pi_any ha) fun σ H R h => tX.bind h fun ρ1 H1 w x s S1 rep env r o => by
  cases w with
  | lst ws =>
    obtain ⟨p, vs, rfl, hr, hs⟩ := itL_of r (ws := ws) rfl
    exact .inl ⟨p, rfl, ⟨vs, hs _ _ (Ext.refl _ _)⟩, Out.here o rep (rit_list hr hs)⟩
  | flst ws =>
    obtain ⟨p, vs, rfl, hr, hs⟩ := itL_of r (ws := ws) rfl
    exact .inl ⟨p, rfl, ⟨vs, hs _ _ (Ext.refl _ _)⟩, Out.here o rep (rit_list hr hs)⟩
  | tup ws =>
    cases r with
    | tup hf hr => exact .inr (.inl ⟨_, rfl, ⟨_, sqT_of hf⟩, Out.here o rep (rit_tup hr fun ρ' H' e => tup_still hf e)⟩)
  | str z => cases r; exact .inr (.inr ⟨z, rfl, Out.here o rep rit_str⟩)
  | ref l =>
    cases r with
    | @ref l p hl =>
      have o : Out X.K X.mg (RI X.K X.mg) E ρ1 H1 (match lstAt S1 l with
        | some _ => Res.ok (ItW.gen (nxL l)) S1
        | none => Res.bad) R := o
      cases e : lstAt S1 l with
      | none => rw [e] at o; exact o.elim
      | some ws =>
        rw [e] at o
        obtain ⟨vs, h1, h2⟩ := lstAt_of rep hl e
        exact .inl ⟨p, rfl, ⟨vs, .inl (.inl h1)⟩, Out.here o rep (ri_dyn hl)⟩
  | _ => exact o.elim
noncomputable def okR (j : Int) : Bool := decide (-(2 ^ 62) ≤ j) && decide (j < 2 ^ 62)
noncomputable def mRange1 (mr : SM (List W)) : SM ItW := fun s S => (mr s S).bind fun ws S1 => match ws with
  | [.int j] => if okR j = true then .ok (.fix (rngW 0 j.toNat)) S1 else .bad
  | _ => .bad
theorem pim_range1 {mr : SM (List W)} {p : Pos} (hm : X.mg "range" = none) (ha : PAM X E [a] mr) (hg : Gl X "range" := by rfl) (hs : starEach [a] X.env = [(false, eval a X.env)] := by rfl) : PIM' X E tg (.Call (.Name "range" p) [a] [] pos) (mRange1 mr) :=
  pi_imp (pi_range1 hg hm ha hs) fun σ H R h => tX.bind h fun ρ1 H1 ws xs s S1 rep env r o => by
    match ws, r, o with
    | [], _, o => exact o.elim
    | [w], r, o =>
      obtain ⟨x, rfl, r1⟩ := r.one
      cases w with
      | int j =>
        cases r1
        have o : Out X.K X.mg (RI X.K X.mg) E ρ1 H1 (if okR j = true then Res.ok (ItW.fix (rngW 0 j.toNat)) S1 else Res.bad) R := o
        split at o
        · rename_i hz
          simp only [okR, Bool.and_eq_true, decide_eq_true_eq] at hz
          exact ⟨j, rfl, hz.1, hz.2, Out.here o rep rit_range⟩
        · exact o.elim
      | _ => exact o.elim
    | w :: _ :: _, _, o => cases w <;> exact o.elim
noncomputable def mRange2 (mr : SM (List W)) : SM ItW := fun s S => (mr s S).bind fun ws S1 => match ws with
  | [.int i, .int j] => if okR i = true ∧ okR j = true then .ok (.fix (rngW i (j - i).toNat)) S1 else .bad
  | _ => .bad
/-- zip of two lists, one of them of the store -/
noncomputable def nxZ (w w' : W) : Nat → Store → Option (Option W) := fun i S => match seqL S w, seqL S w' with
  | some a, some b => some ((zipW a b)[i]?)
  | _, _ => none
noncomputable def zipG (w w' : W) (S : Store) : Res ItW := match seqL S w, seqL S w' with
  | some _, some _ => .ok (.gen (nxZ w w')) S
  | _, _ => .bad
theorem ri_zip {K : PySem.W.Frag} {mg : Str → Option Value} {ρ : RT} {H : Hp} {w w' : W} {a b : Addr} (r : RW K mg ρ H w (.ref a)) (r' : RW K mg ρ H w' (.ref b)) : RI K mg ρ H (.gen (nxZ w w')) (Itz K a b) := by
  intro ρ' H' S' e rep i
  unfold nxZ
  cases e1 : seqL S' w with
  | none => trivial
  | some us =>
    cases e2 : seqL S' w' with
    | none => trivial
    | some us' =>
      obtain ⟨p, vs, ep, h1, g1⟩ := seqL_of rep (r.ext e) e1
      obtain ⟨p', vs', ep', h2, g2⟩ := seqL_of rep (r'.ext e) e2
      cases ep; cases ep'
      dsimp only
      cases e3 : (zipW us us')[i]? with
      | none =>
        have hz := List.getElem?_eq_none_iff.mp e3
        unfold zipW at hz
        rw [List.length_map, List.length_zip] at hz
        refine ⟨vs, vs', h1, h2, ?_⟩
        rw [← g1.length, ← g2.length]
        omega
      | some u =>
        obtain ⟨w1, w2, k1, k2, rfl⟩ := zipW_get e3
        obtain ⟨v1, j1, q1⟩ := g1.get k1
        obtain ⟨v2, j2, q2⟩ := g2.get k2
        refine ⟨⟨vs, vs', v1, v2, h1, h2, j1, j2⟩, fun x H2 hy => ?_⟩
        obtain ⟨T, x1, x2, rfl, hT, rfl, f1, f2⟩ := hy
        have e1 : v1 = x1 := Option.some.inj (j1.symm.trans (f1 vs h1))
        have e2 : v2 = x2 := Option.some.inj (j2.symm.trans (f2 vs' h2))
        subst e1 e2
        exact rw_pair rep hT q1 q2
/-- zip of two lists, of two tuples -/
noncomputable def mZip (mr : SM (List W)) : SM ItW := fun s S => (mr s S).bind fun ws S1 => match ws with
  | [w, w'] => match itL w, itL w' with
    | some a, some b => .ok (.fix (zipW a b)) S1
    | _, _ => match tupL w, tupL w' with
      | some a, some b => .ok (.fix (zipW a b)) S1
      | _, _ => zipG w w' S1
  | _ => .bad
theorem pim_zip {mr : SM (List W)} {p tpos : Pos} {elts : List Expr} {kk : Nat} (hm : X.mg "zip" = none) (ha : PAM X E [a, b] mr) (hg : Gl X "zip" := by rfl) (hs : starEach [a, b] X.env = (false, eval a X.env) :: starEach [b] X.env := by rfl) (hpl : (backTo pos (starEach [b] X.env)).any (·.1) = false := by rfl) :
    PIM' X E (.Tuple elts kk tpos) (.Call (.Name "zip" p) [a, b] [] pos) (mZip mr) :=
  pi_imp (RZ.pi_zipA hg hm ha hs hpl) fun σ H R h => tX.bind h fun ρ1 H1 ws xs s S1 rep env r o => by
    match ws, r, o with
    | [], _, o => exact o.elim
    | [_], _, o => exact o.elim
    | _ :: _ :: _ :: _, _, o => exact o.elim
    | [w, w'], r, o =>
      obtain ⟨x, y, rfl, r1, r2⟩ := r.two
      have o : Out X.K X.mg (RI X.K X.mg) E ρ1 H1 (match itL w, itL w' with
        | some a, some b => Res.ok (ItW.fix (zipW a b)) S1
        | _, _ => match tupL w, tupL w' with
          | some a, some b => Res.ok (ItW.fix (zipW a b)) S1
          | _, _ => zipG w w' S1) R := o
      have two : (itL w = none ∨ itL w' = none) → Out X.K X.mg (RI X.K X.mg) E ρ1 H1 (match tupL w, tupL w' with
          | some a, some b => Res.ok (ItW.fix (zipW a b)) S1
          | _, _ => zipG w w' S1) R := fun hn => by
        cases e1 : itL w with
        | none => rw [e1] at o; exact o
        | some _ =>
          cases e2 : itL w' with
          | none => rw [e1, e2] at o; exact o
          | some _ =>
            rcases hn with z | z
            · rw [e1] at z; cases z
            · rw [e2] at z; cases z
      have tups : (itL w = none ∨ itL w' = none) → ∃ a b xs ys, [x, y] = [V.ref a, V.ref b] ∧ ((SqL X.K H1 a xs ∧ SqL X.K H1 b ys ∧ R (Itz X.K a b) H1) ∨ (SqT X.K H1 a xs ∧ SqT X.K H1 b ys ∧ R (RZ.ItzT X.K a b) H1)) := fun hn => by
        have o := two hn
        have gen : Out X.K X.mg (RI X.K X.mg) E ρ1 H1 (zipG w w' S1) R → ∃ a b xs ys, [x, y] = [V.ref a, V.ref b] ∧ ((SqL X.K H1 a xs ∧ SqL X.K H1 b ys ∧ R (Itz X.K a b) H1) ∨ (SqT X.K H1 a xs ∧ SqT X.K H1 b ys ∧ R (RZ.ItzT X.K a b) H1)) := fun o => by
          unfold zipG at o
          cases e1 : seqL S1 w with
          | none => rw [e1] at o; exact o.elim
          | some us =>
            cases e2 : seqL S1 w' with
            | none => rw [e1, e2] at o; exact o.elim
            | some us' =>
              rw [e1, e2] at o
              obtain ⟨p, vs, rfl, h1, g1⟩ := seqL_of rep r1 e1
              obtain ⟨p', vs', rfl, h2, g2⟩ := seqL_of rep r2 e2
              exact ⟨_, _, _, _, rfl, .inl ⟨h1, h2, Out.here o rep (ri_zip r1 r2)⟩⟩
        cases w with
        | tup us =>
          cases w' with
          | tup us' =>
            cases r1 with
            | tup hf hr =>
              cases r2 with
              | tup hf' hr' => exact ⟨_, _, _, _, rfl, .inr ⟨sqT_of hf, sqT_of hf', Out.here o rep (rit_zipT hr hr' (fun ρ' H' e => tup_still hf e) fun ρ' H' e => tup_still hf' e)⟩⟩
          | _ => exact gen o
        | _ => exact gen o
      cases e1 : itL w with
      | none => exact tups (.inl e1)
      | some us =>
        cases e2 : itL w' with
        | none => exact tups (.inr e2)
        | some us' =>
          rw [e1, e2] at o
          obtain ⟨p, vs, rfl, hr, hs⟩ := itL_of r1 e1
          obtain ⟨p', vs', rfl, hr', hs'⟩ := itL_of r2 e2
          exact ⟨_, _, _, _, rfl, .inl ⟨hs _ _ (Ext.refl _ _), hs' _ _ (Ext.refl _ _), Out.here o rep (rit_zipL hr hr' hs hs')⟩⟩
end
/-! ### for -/
noncomputable def mForL (g : GM) (mb : SS) : List W → SS
  | [] => fun s S => .ok (.nx, s) S
  | w :: r => fun s S => (g w s S).bind fun s1 S1 => (mb s1 S1).bind fun p S2 => match p with
    | (.nx, s2) => mForL g mb r s2 S2
    | (.ct, s2) => mForL g mb r s2 S2
    | (.bk, s2) => .ok (.nx, s2) S2
    | (.rt w, s2) => .ok (.rt w, s2) S2
/-- over the list at l; so many turns at most -/
noncomputable def mForN (g : GM) (mb : SS) (l : Nat → Store → Option (Option W)) : Nat → Nat → SS
  | 0, _ => fun _ _ => .bad
  | n + 1, i => fun s S => match l i S with
    | none => .bad
    | some o => match o with
      | none => .ok (.nx, s) S
      | some w => (g w s S).bind fun s1 S1 => (mb s1 S1).bind fun p S2 => match p with
        | (.nx, s2) => mForN g mb l n (i + 1) s2 S2
        | (.ct, s2) => mForN g mb l n (i + 1) s2 S2
        | (.bk, s2) => .ok (.nx, s2) S2
        | (.rt w, s2) => .ok (.rt w, s2) S2
noncomputable def turns : Nat := 100000
noncomputable def mForI (it : ItW) (g : GM) (mb : SS) : SS := match it with
  | .fix ws => mForL g mb ws
  | .gen l => mForN g mb l turns 0
noncomputable def mFor (mi : SM ItW) (g : GM) (mb : SS) : SS := fun s S => (mi s S).bind fun it S1 => mForI it g mb s S1
section
variable {X : Cx} {E : EK} {pos : Pos} {tg iter : Expr} {body : List Stmt} {mi : SM ItW} {g : GM} {mb : SS} {vs : List Nat}
/-- one turn, then the rest -/
theorem turn_of {ρ : RT} {H : Hp} {s : Env'} {S : Store} {D : Ends} {x : V} {σ : L2.St} {w : W} (rep : RepS X.K X.mg ρ H S) (env : REnv X.K X.mg ρ H E s σ) (r : RW X.K X.mg ρ H w x) {rest : SS} {N : L2.St → Hp → Prop}
    (o : OutS X.K X.mg E ρ H ((g w s S).bind fun s1 S1 => (mb s1 S1).bind fun p S2 => match p with
      | (.nx, s2) => rest s2 S2
      | (.ct, s2) => rest s2 S2
      | (.bk, s2) => .ok (.nx, s2) S2
      | (.rt w, s2) => .ok (.rt w, s2) S2) D)
    (hN : ∀ ρ' H' σ' s' S', Ext ρ H ρ' H' → RepS X.K X.mg ρ' H' S' → REnv X.K X.mg ρ' H' E s' σ' → OutS X.K X.mg E ρ' H' (rest s' S') D → N σ' H') :
    tG X E vs g x σ H fun σ2 H2 => tS X E mb { D with nx := N, ct := N, bk := D.nx } σ2 H2 := by
  refine ⟨ρ, s, S, w, rep, env, r, OutS.bind o fun ρ1 H1 s1 σ1 S1 e1 rep1 hh o1 => ⟨ρ1, s1, S1, rep1, hh.1, ?_⟩⟩
  cases e : mb s1 S1 with
  | ok p S2 =>
    obtain ⟨f, s2⟩ := p
    rw [e] at o1
    cases f with
    | nx => exact fun ρ2 H2 σ2 x rep2 env2 => hN ρ2 H2 σ2 s2 S2 (e1.trans x) rep2 env2 (OutS.ext x o1)
    | ct => exact fun ρ2 H2 σ2 x rep2 env2 => hN ρ2 H2 σ2 s2 S2 (e1.trans x) rep2 env2 (OutS.ext x o1)
    | bk => exact o1
    | rt w => exact o1
  | exc c ns ws S2 => rw [e] at o1; exact o1
  | bad => rw [e] at o1; exact o1
theorem psm_for (hp : PassesOwn (model X.prog X.w) X.A X.env X.xe) (hc : X.calm = true) (hi : PIM' X E tg iter mi) (hg : PGM X E tg vs g) (hb : PSsM X E body mb) (hs : ∀ x, foldedSetIterable iter X.env x = pure x := by intro _; rfl) : PSM X E (.For tg iter body [] pos) (mFor mi g mb) :=
  ps_imp (ps_for hp hc hi hg hb hs) fun D σ H h => tS.bind h fun ρ1 H1 it J s S1 rep env r o => by
    cases it with
    | fix ws =>
      refine ⟨fun i m σ' H' => m = ws.length - i ∧ i ≤ ws.length ∧ ∃ ρ' s' S', Ext ρ1 H1 ρ' H' ∧ RepS X.K X.mg ρ' H' S' ∧ REnv X.K X.mg ρ' H' E s' σ' ∧ OutS X.K X.mg E ρ' H' (mForL g mb (ws.drop i) s' S') D, ⟨ws.length, by simp, Nat.zero_le _, ρ1, s, S1, Ext.refl _ _, rep, env, o⟩, ?_⟩
      rintro i m σ' H' ⟨rfl, hle, ρ', s', S', e, rep', env', o'⟩
      have rr := r ρ' H' S' e rep' i
      by_cases hlt : i < ws.length
      · have hw : ws[i]? = some ws[i] := List.getElem?_eq_getElem hlt
        obtain ⟨go, yl⟩ := rr.1 _ hw
        rw [List.drop_eq_getElem_cons hlt] at o'
        refine .inr ⟨go, fun σ2 H2 => ∃ ρ2 s2 S2, Ext ρ1 H1 ρ2 H2 ∧ RepS X.K X.mg ρ2 H2 S2 ∧ REnv X.K X.mg ρ2 H2 E s2 σ2 ∧ OutS X.K X.mg E ρ2 H2 (mForL g mb (ws.drop (i + 1)) s2 S2) D, fun σ2 H2 h2 => ⟨ws.length - (i + 1), by omega, rfl, hlt, h2⟩, fun x H2 hy => ?_⟩
        obtain ⟨e2, rep2, r2⟩ := yl x H2 hy
        exact turn_of rep2 (env'.ext e2) r2 (OutS.ext e2 o') fun ρ3 H3 σ3 s3 S3 e3 rep3 env3 o3 => ⟨ρ3, s3, S3, (e.trans e2).trans e3, rep3, env3, o3⟩
      · have hi : ws.length = i := by omega
        rw [List.drop_eq_nil_of_le (Nat.le_of_eq hi)] at o'
        exact .inl ⟨rr.2 hi, OutS.nx o' rep' env'⟩
    | gen l =>
      refine ⟨fun i m σ' H' => ∃ ρ' s' S', Ext ρ1 H1 ρ' H' ∧ RepS X.K X.mg ρ' H' S' ∧ REnv X.K X.mg ρ' H' E s' σ' ∧ OutS X.K X.mg E ρ' H' (mForN g mb l m i s' S') D, ⟨turns, ρ1, s, S1, Ext.refl _ _, rep, env, o⟩, ?_⟩
      rintro i m σ' H' ⟨ρ', s', S', e, rep', env', o'⟩
      cases m with
      | zero => exact o'.elim
      | succ m =>
        unfold mForN at o'
        have rr := r ρ' H' S' e rep' i
        cases e1 : l i S' with
        | none => rw [e1] at o'; exact o'.elim
        | some u =>
          rw [e1] at o' rr
          cases u with
          | none => exact .inl ⟨rr, OutS.nx o' rep' env'⟩
          | some w =>
            obtain ⟨go, yl⟩ := rr
            refine .inr ⟨go, fun σ2 H2 => ∃ ρ2 s2 S2, Ext ρ1 H1 ρ2 H2 ∧ RepS X.K X.mg ρ2 H2 S2 ∧ REnv X.K X.mg ρ2 H2 E s2 σ2 ∧ OutS X.K X.mg E ρ2 H2 (mForN g mb l m (i + 1) s2 S2) D, fun σ2 H2 h2 => ⟨m, Nat.lt_succ_self m, h2⟩, fun x H2 hy => ?_⟩
            obtain ⟨e2, rep2, r2⟩ := yl x H2 hy
            exact turn_of rep2 (env'.ext e2) r2 (OutS.ext e2 o') fun ρ3 H3 σ3 s3 S3 e3 rep3 env3 o3 => ⟨ρ3, s3, S3, (e.trans e2).trans e3, rep3, env3, o3⟩
end
/-! ### comprehensions -/
/-- no exception here -/
noncomputable def nox {α : Type} (r : Res α) : Res α := match r with
  | .exc _ _ _ _ => .bad
  | r => r
noncomputable def mLcT (g : GM) (t : SM Bool) (e : SM W) (s0 : Env') (w : W) (acc : List W) (S : Store) : Res (List W) := (nox (g w s0 S)).bind fun s1 S1 => (nox (t s1 S1)).bind fun b S2 => if b = true then (nox (e s1 S2)).bind fun y S3 => if acc.length < lim then .ok (acc ++ [y]) S3 else .bad else .ok acc S2
noncomputable def mLcL (g : GM) (t : SM Bool) (e : SM W) (s0 : Env') : List W → List W → Store → Res (List W)
  | [], acc, S => .ok acc S
  | w :: r, acc, S => (mLcT g t e s0 w acc S).bind fun acc S => mLcL g t e s0 r acc S
noncomputable def mLcN (g : GM) (t : SM Bool) (e : SM W) (s0 : Env') (l : Nat → Store → Option (Option W)) : Nat → Nat → List W → Store → Res (List W)
  | 0, _, _, _ => .bad
  | n + 1, i, acc, S => match l i S with
    | none => .bad
    | some o => match o with
      | none => .ok acc S
      | some w => (mLcT g t e s0 w acc S).bind fun acc S => mLcN g t e s0 l n (i + 1) acc S
noncomputable def mLcI (it : ItW) (g : GM) (t : SM Bool) (e : SM W) (s0 : Env') (S : Store) : Res (List W) := match it with
  | .fix ws => mLcL g t e s0 ws [] S
  | .gen l => mLcN g t e s0 l turns 0 [] S
noncomputable def wipeW (s : Env') : List Nat → Env'
  | [] => s
  | v :: vs => (wipeW s vs).set v none
noncomputable def mLc (mi : SM ItW) (vs : List Nat) (g : GM) (t : SM Bool) (e : SM W) : SM W := fun s S => (mi s S).bind fun it S1 => (mLcI it g t e (wipeW s vs) S1).bind fun acc S2 => .ok (.lst acc) S2
section
variable {K : PySem.W.Frag} {mg : Str → Option Value} {ρ ρ' : RT} {H H' : Hp} {S : Store}
theorem REnv.no {E : EK} {s : Env'} {σ : L2.St} (h : REnv K mg ρ H E s σ) : REnv K mg ρ H EN s σ := ⟨fun y c q => (nomatch q), h.len, h.look⟩
theorem env_wipe {s : Env'} {σ : L2.St} (h : REnv K mg ρ H E s σ) : ∀ vs : List Nat, REnv K mg ρ H E (wipeW s vs) (wipe σ vs)
  | [] => h
  | v :: vs => by
    have ih := env_wipe h vs
    unfold wipeW wipe
    refine ⟨ih.ce, by rw [List.length_set, List.length_set]; exact ih.len, fun i w hw => ?_⟩
    by_cases e : v = i
    · subst e
      by_cases hv : v < (wipeW s vs).length
      · rw [List.getElem?_set_self hv] at hw; cases hw
      · rw [List.getElem?_eq_none (by rw [List.length_set]; omega)] at hw; cases hw
    · rw [List.getElem?_set_ne e] at hw
      obtain ⟨x, h1, h2⟩ := ih.look i w hw
      exact ⟨x, by rw [List.getElem?_set_ne e]; exact h1, h2⟩
theorem wipe_wipe {σ : L2.St} {vs : List Nat} : ∀ {us : List Nat}, (∀ u ∈ us, u ∈ vs) → wipe (wipe σ us) vs = wipe σ vs
  | [], _ => rfl
  | u :: us, h => by
    show wipe ((wipe σ us).set u none) vs = _
    rw [wipe_set (h u List.mem_cons_self), wipe_wipe fun x hx => h x (List.mem_cons_of_mem _ hx)]
/-- fewer things in flux -/
theorem Fx.less {a : Addr} {o : HO} {t : List Addr} (h : Fx ρ H a o) (ht : ∀ b, b ∈ t → b ∈ ρ.t) : Fx ⟨ρ.r, t, ρ.ce⟩ H a o := ⟨h.1, h.2.1, fun m => h.2.2 (ht a m)⟩
theorem DvOk.less {ds : List Int} {dV : Value} {t : List Addr} (h : DvOk ρ H ds dV) (ht : ∀ b, b ∈ t → b ∈ ρ.t) : DvOk ⟨ρ.r, t, ρ.ce⟩ H ds dV := h.imp id fun ⟨t, a, b, c⟩ => ⟨t, a, b, c.less ht⟩
mutual
theorem RW.less {t : List Addr} (ht : ∀ b, b ∈ t → b ∈ ρ.t) : ∀ {w : W} {v : V}, RW K mg ρ H w v → RW K mg ⟨ρ.r, t, ρ.ce⟩ H w v
  | _, _, .non => .non
  | _, _, .bl b => .bl b
  | _, _, .int b => .int b
  | _, _, .str b => .str b
  | _, _, .ty b => .ty b
  | _, _, .gl h => .gl h
  | _, _, .ref h => .ref h
  | _, _, .tup h r => .tup (h.imp (fun z => z.less ht) id) (RWs.less ht r)
  | _, _, .lst h r => .lst (h.less ht) (RWs.less ht r)
  | _, _, .flst h r => .flst (h.imp (fun ⟨o, z⟩ => ⟨o, z.less ht⟩) id) (RWs.less ht r)
  | _, _, .dic h hl r => .dic (h.imp fun _ z => z.less ht) hl (RWs.less ht r)
  | _, _, .ins hc h hl r => .ins hc (h.less ht) hl (RWs.less ht r)
  | _, _, .exn hc h hd hl r => .exn hc (h.less ht) (hd.less ht) hl (RWs.less ht r)
  | _, _, .lam hf hc hd he hk => .lam (hf.less ht) (hc.less ht) (hd.less ht) he hk
  | _, _, .clo hf hc hd hl he hk hi r => .clo (hf.less ht) (hc.less ht) (hd.less ht) hl (fun k y m => let ⟨c, v, o, u, h1, h2, h3, h4⟩ := he k y m; ⟨c, v, o, u, h1, h2, h3.less ht, h4⟩) hk hi (RWs.less ht r)
theorem RWs.less {t : List Addr} (ht : ∀ b, b ∈ t → b ∈ ρ.t) : ∀ {ws : List W} {vs : List V}, RWs K mg ρ H ws vs → RWs K mg ⟨ρ.r, t, ρ.ce⟩ H ws vs
  | _, _, .nil => .nil
  | _, _, .cons h r => .cons (RW.less ht h) (RWs.less ht r)
end
theorem RO.less {t : List Addr} (ht : ∀ b, b ∈ t → b ∈ ρ.t) {a : Addr} {o : Ob} (h : RO K mg ρ H a o) : RO K mg ⟨ρ.r, t, ρ.ce⟩ H a o := by
  cases h with
  | lst h r => exact .lst h (r.less ht)
  | dic h hl r => exact .dic h hl (r.less ht)
  | ins hc h hl r => exact .ins hc h hl (r.less ht)
  | tab h1 h hk hco => exact .tab h1 h hk fun pos cv q => let ⟨c, g1, g2⟩ := hco pos cv q; ⟨c, g1, g2.less ht⟩
theorem RepS.less {t : List Addr} (ht : ∀ b, b ∈ t → b ∈ ρ.t) (R : RepS K mg ρ H S) : RepS K mg ⟨ρ.r, t, ρ.ce⟩ H S :=
  ⟨R.len, R.nd, fun l o hl => let ⟨a, h1, h2⟩ := R.ob l o hl; ⟨a, h1, h2.less ht⟩, fun a m => R.tk a (ht a m), fun a m => R.tp a (ht a m)⟩
/-- what is in flux is changed -/
theorem ext_flux {D : Addr} {o : HO} (hD : D ∈ ρ.t) : (∀ {a : Addr} {u : HO}, Fx ρ H a u → Fx ρ (upd H D o) a u) := fun {a u} h => ⟨by rw [upd_ne fun z : a = D => h.2.2 (by rw [z]; exact hD)]; exact h.1, h.2⟩
theorem DvOk.flux {D : Addr} {o : HO} (hD : D ∈ ρ.t) {ds : List Int} {dV : Value} (h : DvOk ρ H ds dV) : DvOk ρ (upd H D o) ds dV := h.imp id fun ⟨t, a, b, c⟩ => ⟨t, a, b, ext_flux hD c⟩
mutual
theorem RW.flux {D : Addr} {o : HO} (hD : D ∈ ρ.t) : ∀ {w : W} {v : V}, RW K mg ρ H w v → RW K mg ρ (upd H D o) w v
  | _, _, .non => .non
  | _, _, .bl b => .bl b
  | _, _, .int b => .int b
  | _, _, .str b => .str b
  | _, _, .ty b => .ty b
  | _, _, .gl h => .gl h
  | _, _, .ref h => .ref h
  | _, _, .tup h r => .tup (h.imp (fun z => ext_flux hD z) id) (RWs.flux hD r)
  | _, _, .lst h r => .lst (ext_flux hD h) (RWs.flux hD r)
  | _, _, .flst h r => .flst (h.imp (fun ⟨o, z⟩ => ⟨o, ext_flux hD z⟩) id) (RWs.flux hD r)
  | _, _, .dic h hl r => .dic (h.imp fun _ z => ext_flux hD z) hl (RWs.flux hD r)
  | _, _, .ins hc h hl r => .ins hc (ext_flux hD h) hl (RWs.flux hD r)
  | _, _, .exn hc h hd hl r => .exn hc (ext_flux hD h) (ext_flux hD hd) hl (RWs.flux hD r)
  | _, _, .lam hf hc hd he hk => .lam (ext_flux hD hf) (ext_flux hD hc) (hd.flux hD) he hk
  | _, _, .clo hf hc hd hl he hk hi r => .clo (ext_flux hD hf) (ext_flux hD hc) (hd.flux hD) hl (fun k y m => let ⟨c, v, o, u, h1, h2, h3, h4⟩ := he k y m; ⟨c, v, o, u, h1, h2, ext_flux hD h3, h4⟩) hk hi (RWs.flux hD r)
theorem RWs.flux {D : Addr} {o : HO} (hD : D ∈ ρ.t) : ∀ {ws : List W} {vs : List V}, RWs K mg ρ H ws vs → RWs K mg ρ (upd H D o) ws vs
  | _, _, .nil => .nil
  | _, _, .cons h r => .cons (RW.flux hD h) (RWs.flux hD r)
end
theorem RepS.flux {D : Addr} {o : HO} (hD : D ∈ ρ.t) (R : RepS K mg ρ H S) (ho : ∀ c u, o ≠ PinO c u := by intro _ _ z; cases z) : RepS K mg ρ (upd H D o) S := by
  have ne : ∀ a, a ∈ ρ.r → a ≠ D := fun a m z => (R.tk D hD).2 (z ▸ m)
  refine ⟨R.len, R.nd, fun l ob hl => ?_, fun a m => ⟨?_, (R.tk a m).2⟩, fun a m c u z => ?_⟩
  · obtain ⟨a, h1, h2⟩ := R.ob l ob hl
    have hne := ne a (List.mem_of_getElem? h1)
    refine ⟨a, h1, ?_⟩
    cases h2 with
    | lst h r => exact .lst ((upd_ne hne).trans h) (r.flux hD)
    | dic h hl' r => exact .dic ((upd_ne hne).trans h) hl' (r.flux hD)
    | ins hc h hl' r => exact .ins hc ((upd_ne hne).trans h) hl' (r.flux hD)
    | tab h1 h hk hco => exact .tab h1 ((upd_ne hne).trans h) hk fun pos cv q => let ⟨c, g1, g2⟩ := hco pos cv q; ⟨c, g1, ext_flux hD g2⟩
  · by_cases z : a = D
    · subst z; rw [upd_same]; simp
    · rw [upd_ne z]; exact (R.tk a m).1
  · by_cases hz : a = D
    · subst hz; rw [upd_same] at z; exact ho c u (Option.some.inj z)
    · rw [upd_ne hz] at z; exact R.tp a m c u z
/-- a new thing in flux -/
theorem RepS.more {D : Addr} {o : HO} (hD : H D = none) (R : RepS K mg ρ H S) (ho : ∀ c u, o ≠ PinO c u := by intro _ _ z; cases z) : Ext ρ H ⟨ρ.r, D :: ρ.t, ρ.ce⟩ (upd H D o) ∧ RepS K mg ⟨ρ.r, D :: ρ.t, ρ.ce⟩ (upd H D o) S := by
  have np := R.fresh hD
  have e : Ext ρ H ⟨ρ.r, D :: ρ.t, ρ.ce⟩ (upd H D o) := ⟨fun _ _ h => h, fun b m => List.mem_cons_of_mem _ m, fun b m => (List.mem_cons.mp m).elim (fun z => .inr (z ▸ hD)) .inl, fun b u hb _ => by rw [upd_ne (ne_of_none hb hD)]; exact hb, fun _ h => .inl h, fun b m hb => by
    have n : b ≠ D := fun z => np.1 (z ▸ m)
    rw [upd_ne n]; exact hb, rfl⟩
  refine ⟨e, R.len, R.nd, fun l ob hl => ?_, fun a m => ?_, fun a m c u q => ?_⟩
  · obtain ⟨a, h1, h2⟩ := R.ob l ob hl
    exact ⟨a, h1, h2.ext e (upd_ne fun z => np.1 (z ▸ List.mem_of_getElem? h1))⟩
  · rcases List.mem_cons.mp m with z | z
    · subst z; exact ⟨by rw [upd_same]; simp, np.1⟩
    · exact ⟨by rw [upd_ne (fun q : a = D => np.2 (q ▸ z))]; exact (R.tk a z).1, (R.tk a z).2⟩
  · rcases List.mem_cons.mp m with z | z
    · subst z; rw [upd_same] at q; exact ho c u (Option.some.inj q)
    · rw [upd_ne (fun q : a = D => np.2 (q ▸ z))] at q; exact R.tp a z c u q
theorem Out.noxbind {α β γ δ : Type} {E : EK} {R : Rl β α} {R' : Rl δ γ} {ρ1 ρ3 : RT} {H1 H3 : Hp} {r : Res α} {k : α → Store → Res γ} {Q : δ → Hp → Prop} {Z : β → Hp → Prop} (h : Out K mg R' E ρ1 H1 ((nox r).bind k) Q)
    (f : ∀ ρ4 H4 a b S4, Ext ρ3 H3 ρ4 H4 → RepS K mg ρ4 H4 S4 → R ρ4 H4 a b → Out K mg R' E ρ1 H1 (k a S4) Q → Z b H4) : Out K mg R EN ρ3 H3 r Z := by
  cases r with
  | ok w S => exact fun ρ4 H4 v e rep rw => f ρ4 H4 w v S e rep rw h
  | exc c ns ws S => exact h.elim
  | bad => exact h
end
theorem Res.bind_bind {α β γ : Type} (r : Res α) (k : α → Store → Res β) (l : β → Store → Res γ) : (r.bind k).bind l = r.bind fun a S => (k a S).bind l := by cases r <;> rfl
section
variable {X : Cx} {E : EK} {pos : Pos} {tg iter elt : Expr} {ifs : List Expr} {scope : Scope} {own : List (Str × Nat)} {mi : SM ItW} {g : GM} {t : SM Bool} {me : SM W} {vs : List Nat}
/-- one turn of a comprehension, the list so far at D -/
theorem lcT_of {ρ1 ρ : RT} {H1 H : Hp} {s0 : Env'} {σ : L2.St} {D : Addr} {acc : List W} {accV : List V} {S : Store} {w : W} {x : V} {γ δ : Type} {R' : Rl δ γ} {k : List W → Store → Res γ} {Q : δ → Hp → Prop} {Nx : Hp → Prop}
    (rep : RepS X.K X.mg ρ H S) (hD : D ∈ ρ.t) (env : REnv X.K X.mg ρ H E s0 (wipe σ vs)) (r : RW X.K X.mg ρ H w x) (hd : H D = some (.lst accV)) (ra : RWs X.K X.mg ρ H acc accV)
    (o : Out X.K X.mg R' E ρ1 H1 ((mLcT g t me s0 w acc S).bind k) Q)
    (hN : ∀ ρ' H' acc' accV' S', (∃ H2, Ext ρ H ρ' H2 ∧ ∃ u, H' = upd H2 D u ∨ H' = H2) → RepS X.K X.mg ρ' H' S' → H' D = some (.lst accV') → RWs X.K X.mg ρ' H' acc' accV' → Out X.K X.mg R' E ρ1 H1 (k acc' S') Q → Nx H') :
    tG X EN vs g x (wipe σ vs) H fun σ2 H2 => wipe σ2 vs = wipe σ vs ∧ tT X EN t σ2 H2 fun b H3 => if b = true then tE X EN me σ2 H3 fun y H4 => ∃ acc, H4 D = some (.lst acc) ∧ acc.length < sizeLine ∧ Nx (upd H4 D (.lst (acc ++ [y]))) else Nx H3 := by
  unfold mLcT at o
  rw [Res.bind_bind] at o
  refine ⟨ρ, s0, S, w, rep, env.no, r, Out.noxbind o fun ρ2 H2 s1 σ1 S2 e2 rep2 hh o2 => ⟨hh.2.trans (wipe_wipe fun _ h => h), ρ2, s1, S2, rep2, hh.1, ?_⟩⟩
  rw [Res.bind_bind] at o2
  refine Out.noxbind o2 fun ρ3 H3 b b' S3 e3 rep3 rb o3 => ?_
  cases rb
  have nr : D ∉ ρ.r := (rep.tk D hD).2
  have n2 : D ∉ ρ2.r := e2.not hd nr
  have hd2 := e2.keep _ _ hd nr
  have n3 : D ∉ ρ3.r := e3.not hd2 n2
  have hd3 := e3.keep _ _ hd2 n2
  have hD3 := e3.sub _ (e2.sub _ hD)
  cases b with
  | false =>
    rw [if_neg Bool.false_ne_true] at o3 ⊢
    exact hN ρ3 H3 acc accV S3 ⟨H3, e2.trans e3, .lst [], .inr rfl⟩ rep3 hd3 ((ra.ext e2).ext e3) o3
  | true =>
    rw [if_pos rfl] at o3 ⊢
    rw [Res.bind_bind] at o3
    refine ⟨ρ3, s1, S3, rep3, hh.1.ext e3, Out.noxbind o3 fun ρ4 H4 y y' S4 e4 rep4 r4 o4 => ?_⟩
    have hd4 := e4.keep _ _ hd3 n3
    have hD4 := e4.sub _ hD3
    have ra4 := (((ra.ext e2).ext e3).ext e4)
    split at o4
    · rename_i hz
      refine ⟨accV, hd4, by rw [← ra.length]; exact lim_lt hz, hN ρ4 _ (acc ++ [y]) (accV ++ [y']) S4 ⟨H4, (e2.trans e3).trans e4, _, .inl rfl⟩ (rep4.flux hD4) upd_same ((ra4.append (.cons r4 .nil)).flux hD4) o4⟩
    · exact o4.elim
theorem lc_of {mk : List W → Store → Res W} {σ : L2.St} {H : Hp} {Q : VK}
    (fin : ∀ (ρ1 ρ : RT) (H1 H : Hp) (D : Addr) (acc : List W) (accV : List V) (S : Store), (∀ a, a ∈ ρ1.t → a ∈ ρ.t) → H1 D = none → Ext ρ1 H1 ρ H → RepS X.K X.mg ρ H S → D ∈ ρ.t → H D = some (.lst accV) → RWs X.K X.mg ρ H acc accV → RepS X.K X.mg ⟨ρ.r, ρ1.t, ρ.ce⟩ H S → D ∉ ρ1.t → Out X.K X.mg (RW X.K X.mg) E ρ1 H1 (mk acc S) Q → Q (.ref D) H)
    (h : tE X E (fun s S => (mi s S).bind fun it S1 => (mLcI it g t me (wipeW s vs) S1).bind mk) σ H Q) : tLc (tX X.K X.mg (RI X.K X.mg) E mi) (tG X EN vs g) (tT X EN t) (tE X EN me) vs σ H Q :=
  tX.bind h fun ρ1 H1 it J s S1 rep env r o => fun D hD => by
    have np := rep.fresh hD
    obtain ⟨e0, rep0⟩ := rep.more (o := .lst []) hD
    -- the state behind some turns
    have go : ∀ {ρ ρ' : RT} {H H' : Hp} {accV : List V}, Ext ρ1 H1 ρ H → D ∉ ρ.r → (∃ H2, Ext ρ H ρ' H2 ∧ ∃ u, H' = upd H2 D u ∨ H' = H2) → Ext ρ1 H1 ρ' H' := fun {ρ ρ' H H' accV} e nr ⟨H2, e2, u, hu⟩ => by
      rcases hu with rfl | rfl
      · have e3 := e.trans e2
        exact ⟨e3.pre, e3.sub, e3.newt, fun b o hb n => by rw [upd_ne (ne_of_none hb hD)]; exact e3.keep b o hb n, e3.new, fun b m hb => by
          by_cases z : b = D
          · subst z; rw [upd_same]; simp
          · rw [upd_ne z]; exact e3.still b m hb, e3.ce⟩
      · exact e.trans e2
    cases it with
    | fix ws =>
      refine ⟨fun i m H' => m = ws.length - i ∧ i ≤ ws.length ∧ ∃ ρ acc accV S, Ext ρ1 H1 ρ H' ∧ RepS X.K X.mg ρ H' S ∧ D ∈ ρ.t ∧ H' D = some (.lst accV) ∧ RWs X.K X.mg ρ H' acc accV ∧ Out X.K X.mg (RW X.K X.mg) E ρ1 H1 ((mLcL g t me (wipeW s vs) (ws.drop i) acc S).bind mk) Q,
        ⟨ws.length, by simp, Nat.zero_le _, ⟨ρ1.r, D :: ρ1.t, ρ1.ce⟩, [], [], S1, e0, rep0, List.mem_cons_self, upd_same, .nil, o⟩, ?_⟩
      rintro i m H' ⟨rfl, hle, ρ, acc, accV, S, e, rep', hDt, hd, ra, o'⟩
      have rr := r ρ H' S e rep' i
      by_cases hlt : i < ws.length
      · have hw : ws[i]? = some ws[i] := List.getElem?_eq_getElem hlt
        obtain ⟨go1, yl⟩ := rr.1 _ hw
        rw [List.drop_eq_getElem_cons hlt] at o'
        unfold mLcL at o'
        rw [Res.bind_bind] at o'
        refine .inr ⟨go1, fun H2 => ∃ ρ acc accV S, Ext ρ1 H1 ρ H2 ∧ RepS X.K X.mg ρ H2 S ∧ D ∈ ρ.t ∧ H2 D = some (.lst accV) ∧ RWs X.K X.mg ρ H2 acc accV ∧ Out X.K X.mg (RW X.K X.mg) E ρ1 H1 ((mLcL g t me (wipeW s vs) (ws.drop (i + 1)) acc S).bind mk) Q, fun H2 h2 => ⟨ws.length - (i + 1), by omega, rfl, hlt, h2⟩, fun x H2 hy => ?_⟩
        obtain ⟨e2, rep2, r2⟩ := yl x H2 hy
        have nr := (rep'.tk D hDt).2
        refine lcT_of rep2 hDt ((env_wipe env vs).ext (e.trans e2)) r2 (e2.keep _ _ hd nr) (ra.ext e2) o' fun ρ3 H3 acc3 accV3 S3 hx rep3 hd3 ra3 o3 => ?_
        refine ⟨ρ3, acc3, accV3, S3, go (accV := []) (e.trans e2) nr hx, rep3, ?_, hd3, ra3, o3⟩
        obtain ⟨Hx, ex, _⟩ := hx
        exact ex.sub _ hDt
      · have hi : ws.length = i := by omega
        rw [List.drop_eq_nil_of_le (Nat.le_of_eq hi)] at o'
        exact .inl ⟨rr.2 hi, fin ρ1 ρ H1 H' D acc accV S e.sub hD e rep' hDt hd ra (rep'.less e.sub) np.2 o'⟩
    | gen l =>
      refine ⟨fun i m H' => ∃ ρ acc accV S, Ext ρ1 H1 ρ H' ∧ RepS X.K X.mg ρ H' S ∧ D ∈ ρ.t ∧ H' D = some (.lst accV) ∧ RWs X.K X.mg ρ H' acc accV ∧ Out X.K X.mg (RW X.K X.mg) E ρ1 H1 ((mLcN g t me (wipeW s vs) l m i acc S).bind mk) Q,
        ⟨turns, ⟨ρ1.r, D :: ρ1.t, ρ1.ce⟩, [], [], S1, e0, rep0, List.mem_cons_self, upd_same, .nil, o⟩, ?_⟩
      rintro i m H' ⟨ρ, acc, accV, S, e, rep', hDt, hd, ra, o'⟩
      cases m with
      | zero => exact o'.elim
      | succ m =>
        unfold mLcN at o'
        have rr := r ρ H' S e rep' i
        cases e1 : l i S with
        | none => rw [e1] at o'; exact o'.elim
        | some u =>
          rw [e1] at o' rr
          cases u with
          | none => exact .inl ⟨rr, fin ρ1 ρ H1 H' D acc accV S e.sub hD e rep' hDt hd ra (rep'.less e.sub) np.2 o'⟩
          | some w =>
            dsimp only at o'
            rw [Res.bind_bind] at o'
            obtain ⟨go1, yl⟩ := rr
            refine .inr ⟨go1, fun H2 => ∃ ρ acc accV S, Ext ρ1 H1 ρ H2 ∧ RepS X.K X.mg ρ H2 S ∧ D ∈ ρ.t ∧ H2 D = some (.lst accV) ∧ RWs X.K X.mg ρ H2 acc accV ∧ Out X.K X.mg (RW X.K X.mg) E ρ1 H1 ((mLcN g t me (wipeW s vs) l m (i + 1) acc S).bind mk) Q, fun H2 h2 => ⟨m, Nat.lt_succ_self m, h2⟩, fun x H2 hy => ?_⟩
            obtain ⟨e2, rep2, r2⟩ := yl x H2 hy
            have nr := (rep'.tk D hDt).2
            refine lcT_of rep2 hDt ((env_wipe env vs).ext (e.trans e2)) r2 (e2.keep _ _ hd nr) (ra.ext e2) o' fun ρ3 H3 acc3 accV3 S3 hx rep3 hd3 ra3 o3 => ?_
            refine ⟨ρ3, acc3, accV3, S3, go (accV := []) (e.trans e2) nr hx, rep3, ?_, hd3, ra3, o3⟩
            obtain ⟨Hx, ex, _⟩ := hx
            exact ex.sub _ hDt
noncomputable def PTsM (X : Cx) (E : EK) (ifs : List Expr) (m : SM Bool) : Prop := PTs X ifs (tT X E m)
noncomputable def mYes : SM Bool := fun _ S => .ok true S
theorem pts_imp {X : Cx} {e : List Expr} {t t' : TT} (h : PTs X e t) (f : ∀ σ H Q, t' σ H Q → t σ H Q) : PTs X e t' := ⟨fun pins s σ H Q I q => h.run pins s σ H Q I (f σ H Q q)⟩
theorem ptsm_nil : PTsM X E [] mYes := pts_imp pts_nil fun σ H Q ⟨ρ, s, S, rep, env, o⟩ => Out.here o rep rfl
theorem ptsm_one {c : Expr} {nc : SM Bool} (h : PTM X E c nc) : PTsM X E [c] nc := pts_one h
noncomputable abbrev slots (own : List (Str × Nat)) : List Nat := own.map (·.2)
/-- the block's part of a comprehension, at every entry -/
structure Blk (X : Cx) (scope : Scope) (tg : Expr) (ifs : List Expr) (elt : Expr) (vs : List Nat) (g : GM) (t : SM Bool) (me : SM W) : Prop where
  g : ∀ (s : Shared) (H : Hp) (C : Addr) (cl : List (Str × Addr)) (fp : List Addr), PGM (X.blk s H scope (compEnvC scope cl C X.env) fp) EN tg vs g
  t : ∀ (s : Shared) (H : Hp) (C : Addr) (cl : List (Str × Addr)) (fp : List Addr), PTsM (X.blk s H scope (compEnvC scope cl C X.env) fp) EN ifs t
  e : ∀ (s : Shared) (H : Hp) (C : Addr) (cl : List (Str × Addr)) (fp : List Addr), PM (X.blk s H scope (compEnvC scope cl C X.env) fp) EN elt me
theorem lc_fin {ρ1 ρ : RT} {H1 H : Hp} {D : Addr} {acc : List W} {accV : List V} {S : Store} {Q : VK} (hD : H1 D = none) (e : Ext ρ1 H1 ρ H) (rep : RepS X.K X.mg ρ H S) (hDt : D ∈ ρ.t) (hd : H D = some (.lst accV)) (ra : RWs X.K X.mg ρ H acc accV) (rep2 : RepS X.K X.mg ⟨ρ.r, ρ1.t, ρ.ce⟩ H S) (nt : D ∉ ρ1.t)
    (o : Out X.K X.mg (RW X.K X.mg) E ρ1 H1 (.ok (.lst acc) S) Q) : Q (.ref D) H :=
  o ⟨ρ.r, ρ1.t, ρ.ce⟩ H (.ref D) ⟨e.pre, fun _ h => h, fun _ h => .inl h, e.keep, e.new, e.still, e.ce⟩ rep2 (.lst ⟨hd, (rep.tk D hDt).2, nt⟩ (ra.less e.sub))
theorem pm_lc (hc : X.calm = true) (hN : X.N.Nodup) (hi : PIM' X E tg iter mi) (ok : blkC X.N X.env.scope scope own = true) (hb : Blk X scope tg ifs elt (slots own) g t me) (hs : ∀ x, foldedSetIterable iter X.env x = pure x := by intro _; rfl) :
    PM X E (.ListComp elt [⟨tg, iter, ifs, 0⟩] scope pos) (mLc mi (slots own) g t me) :=
  pe_imp (pe_lc (g := tG X EN (slots own) g) (tt := tT X EN t) (te := tE X EN me) hc hN hi (blkOk_by ok) hb.g hb.t hb.e hs) fun σ H Q h => lc_of (fun ρ1 ρ H1 H D acc accV S _ hD e rep hDt hd ra rep2 nt o => lc_fin hD e rep hDt hd ra rep2 nt o) h
/-- y = [..] -/
theorem psm_setLc (i : Nat) {y : Str} {py spos : Pos} (hc : X.calm = true) (hN : X.N.Nodup) (hi : PIM' X E tg iter mi) (ok : blkC X.N X.env.scope scope own = true) (hb : Blk X scope tg ifs elt (slots own) g t me) (hy : X.N[i]? = some y := by rfl) (hyl : X.env.scope.names.lookup y = some .local := by rfl)
    (hsw : swapsWith (.ListComp elt [⟨tg, iter, ifs, 0⟩] scope pos) (some (.Name y py)) spos.line X.env = pure true := by exact sw_true rfl rfl rfl (by decide +kernel)) (hs : ∀ x, foldedSetIterable iter X.env x = pure x := by intro _; rfl) :
    PSM X E (.Assign [.Name y py] (.ListComp elt [⟨tg, iter, ifs, 0⟩] scope pos) spos) (mAsg (mLc mi (slots own) g t me) (gNm i)) :=
  ps_imp (ps_setLc (g := tG X EN (slots own) g) (tt := tT X EN t) (te := tE X EN me) hc hN hy hyl hsw hi (blkOk_by ok) hb.g hb.t hb.e hs) fun D σ H ⟨ρ, s, S, rep, env, o⟩ => lc_of (E := E) (fun ρ1 ρ H1 H D acc accV S _ hD e rep hDt hd ra rep2 nt o => lc_fin hD e rep hDt hd ra rep2 nt o)
    ⟨ρ, s, S, rep, env, OutS.bind o fun ρ1 H1 w x S1 e1 rep1 r1 o1 => OutS.nx (s := s.set i (some w)) o1 rep1 ((env.ext e1).set i r1)⟩
end
end RL
end
section
set_option maxRecDepth 100000
set_option maxHeartbeats 2000000
namespace RL
open PySem PySem.Spec L2
open PyProof.Rows hiding St
variable [Lams]
/-! ### defs -/
/-- what a def is worth: a function of the arguments and the store -/
noncomputable abbrev Fn := List W → Store → Res W
noncomputable def spM (K : PySem.W.Frag) (mg : Str → Option Value) (n : Nat) (g : Fn) : Sp := fun vs H Q E => ∃ ρ S ws, RepS K mg ρ H S ∧ RWs K mg ρ H ws vs ∧ ws.length = n ∧ Out K mg (RW K mg) E ρ H (g ws S) Q
noncomputable def startW (n : Nat) (ws : List W) : Env' := ws.map some ++ List.replicate (n - ws.length) none
/-- a body run at the arguments; n: the slots -/
noncomputable def runB (n : Nat) (m : SS) : Fn := fun ws S => (m (startW n ws) S).bind fun p S1 => match p with
  | (.nx, _) => .ok .non S1
  | (.rt w, _) => .ok w S1
  | _ => .bad
noncomputable abbrev FnM (P : Program) (w : World) (K : PySem.W.Frag) (mg : Str → Option Value) (base : Heap) (k : Nat) (f : Addr) (fd : FuncData) (ps : List Str) (n : Nat) (g : Fn) : Prop := FnOk P w K mg base (L2.CX P w) k f fd ps (spM K mg n g)
section
variable {P : Program} {w : World} {K : PySem.W.Frag} {mg : Str → Option Value} {base : Heap}
theorem env_start {E : EK} {ρ : RT} {H : Hp} {ws : List W} {vs : List V} {N : List Str} (r : RWs K mg ρ H ws vs) (hce : ∀ y c, E.ce y = some c → ρ.ce y = some c) : REnv K mg ρ H E (startW N.length ws) (L2.start N vs) := by
  have hl := r.length
  refine ⟨hce, by simp [startW, L2.start, hl], fun i u hi => ?_⟩
  unfold startW at hi
  by_cases h : i < ws.length
  · rw [List.getElem?_append_left (by simpa using h), List.getElem?_map] at hi
    cases e : ws[i]? with
    | none => rw [e] at hi; cases hi
    | some u' =>
      rw [e] at hi
      cases (Option.some.inj (Option.some.inj hi) : u' = u)
      obtain ⟨v, h1, h2⟩ := r.get e
      refine ⟨v, ?_, h2⟩
      unfold L2.start
      rw [List.getElem?_append_left (by simpa [← hl] using h), List.getElem?_map, h1]
      rfl
  · rw [List.getElem?_append_right (by simpa using h), List.getElem?_replicate] at hi
    split at hi <;> cases hi
/-- a def, by its body -/
theorem fn_m {x qual : Str} {st : Stmt} {f : Addr} {fd : FuncData} {N ps : List Str} {k : Nat} {m : SS} (F : Fun K x qual st f fd) (Sc : FnScope N ps (defScope st))
    (hb : ∀ (cdv : Value) (A : Around) (outer : List Env) (s : Shared) (H : Hp) (E : EK), Room k (A.deeper (envOfC qual (defScope st) s.heap.objs.size f cdv)) → Takes (cxOf (L2.CX P w) P w K mg base N qual (defScope st) f cdv A outer s H E) (fun c d _ H => E c d H) → PSsM (cxOf (L2.CX P w) P w K mg base N qual (defScope st) f cdv A outer s H E) E (defBody st) m) :
    FnM P w K mg base (k + 1) f fd ps ps.length (runB N.length m) := by
  refine F.okX Sc (fun vs H Q E h => ?_) (fun cdv A outer s H vs Q E hr h => ⟨_, hb cdv A outer s H ⟨E, fun _ => none⟩ hr (takes_of rfl rfl rfl rfl), ?_⟩)
  · obtain ⟨ρ, S, ws, rep, rs, hn, _⟩ := h
    rw [← rs.length]; exact hn
  · obtain ⟨ρ, S, ws, rep, rs, hn, o⟩ := h
    refine ⟨ρ, startW N.length ws, S, rep, env_start rs (fun _ _ q => nomatch q), ?_⟩
    unfold runB at o
    show OutS K mg ⟨E, fun _ => none⟩ ρ H (m (startW N.length ws) S) _
    cases e : m (startW N.length ws) S with
    | ok p S1 =>
      obtain ⟨fl, s1⟩ := p
      rw [e] at o
      cases fl with
      | nx => exact fun ρ' H' σ' x rep' env' => o ρ' H' .non x rep' .non
      | rt u => exact o
      | bk => exact o.elim
      | ct => exact o.elim
    | exc c ns ws' S1 => rw [e] at o; exact o
    | bad => rw [e] at o; exact o
theorem fn_bad {f : Addr} {fd : FuncData} {ps : List Str} {k n : Nat} : FnM P w K mg base k f fd ps n (fun _ _ => .bad) :=
  ⟨fun vs H Q E ⟨_, _, _, _, _, _, o⟩ => o.elim, fun _ _ _ _ _ _ _ _ _ _ _ _ _ ⟨_, _, _, _, _, _, o⟩ => o.elim⟩
end
section
variable {X : Cx} {E : EK} {pos : Pos} {a : Expr} {es : List Expr} {mr : SM (List W)} {k n : Nat} {f : Addr} {fd : FuncData} {ps : List Str} {g : Fn} {x : Str} {p : Pos}
theorem passM (tk : Takes X (fun c d _ H => E c d H)) : Passes (L2.CX X.prog X.w) X E := passes_call tk fun _ _ _ _ h => h
theorem call_sp {σ : L2.St} {H : Hp} {Q : VK} (h : tE X E (mAp g mr) σ H Q) (hn : ∀ s S ws S', mr s S = .ok ws S' → ws.length = n) : tCall (spM X.K X.mg n g) [] E (tA X E mr) σ H Q := by
  obtain ⟨ρ, s, S, rep, env, o⟩ := h
  refine ⟨ρ, s, S, rep, env, ?_⟩
  unfold mAp at o
  cases e : mr s S with
  | ok ws S1 =>
    rw [e] at o
    exact fun ρ1 H1 vs x rep1 r => ⟨ρ1, S1, ws, rep1, by rw [List.append_nil]; exact r, hn _ _ _ _ e, Out.ext x o⟩
  | exc c ns ws S1 => rw [e] at o; exact o
  | bad => rw [e] at o; exact o
/-- how many arguments -/
class Len (mr : SM (List W)) (n : outParam Nat) : Prop where
  len : ∀ s S ws S', mr s S = .ok ws S' → ws.length = n
theorem len_nil : Len mNil 0 := ⟨fun s S ws S' h => by cases h; rfl⟩
theorem len_cons {m : SM W} {mr : SM (List W)} {n : Nat} (h : Len mr n) : Len (mCons m mr) (n + 1) := ⟨fun s S ws S' e => by
  unfold mCons at e
  cases e1 : m s S with
  | ok w S1 =>
    rw [e1] at e
    have e : (mr s S1).bind (fun ws S2 => Res.ok (w :: ws) S2) = .ok ws S' := e
    cases e2 : mr s S1 with
    | ok us S2 =>
      rw [e2] at e
      cases e
      rw [List.length_cons, h.len _ _ _ _ e2]
    | exc c ns ws S2 => rw [e2] at e; cases e
    | bad => rw [e2] at e; cases e
  | exc c ns ws S1 => rw [e1] at e; cases e
  | bad => rw [e1] at e; cases e⟩
noncomputable instance : Len mNil 0 := len_nil
noncomputable instance {m : SM W} {mr : SM (List W)} {n : Nat} [h : Len mr n] : Len (mCons m mr) (n + 1) := len_cons h
/-- f(e, ..) -/
theorem pm_call [hl : Len mr n] (F : FnM X.prog X.w X.K X.mg X.base k f fd ps n g) (hr : Room k X.A) (hm : X.mg x = some (.ref f)) (hk : PySem.W.keepIn X.K (.ref f) = true) (hb : Binds X.K fd ps []) (tk : Takes X (fun c d _ H => E c d H)) (ha : PAM X E (a :: es) mr)
    (hg : Gl X x := by rfl) (hdb : (x == ("__debug__" : Str)) = false := by decide +kernel) (he : starEach (a :: es) X.env = (false, eval a X.env) :: starEach es X.env := by rfl) (hpl : (backTo pos (starEach es X.env)).any (·.1) = false := by rfl) : PM X E (.Call (.Name x p) (a :: es) [] pos) (mAp g mr) :=
  pe_imp (pe_call F hr hg hm hk hb .nil (passM tk) ha hdb he hpl) fun σ H Q h => call_sp h hl.len
/-! ### methods of built-in types -/
variable {o : Expr} {mo : SM W} {T id : String} {name : Str} {apos : Pos}
end
/-! ### the law's end -/
theorem cx_end {P : Program} {w : World} {H : Hp} {s : Shared} {e : Value} {s' : Shared} (h : L2.CX P w [] H s (fun _ _ _ => False) e s') : False := by
  obtain ⟨_, _, _, _, _, _, _, _, _, _, _, _, z⟩ := h
  exact z
end RL
namespace RL
open PySem PySem.Spec L2
open PyProof.Rows hiding St
variable [Lams]
/-! ### defs by their names -/
noncomputable def FTx (K : PySem.W.Frag) (mg : Str → Option Value) (x : Str) (st : Stmt) (ps : List Str) : Prop := ∃ f fd, Fun K x x st f fd ∧ mg x = some (.ref f) ∧ Binds K fd ps []
/-- a def of the module that is worth g -/
noncomputable def FnE (P : Program) (w : World) (K : PySem.W.Frag) (mg : Str → Option Value) (base : Heap) (k : Nat) (x : Str) (st : Stmt) (ps : List Str) (g : Fn) : Prop :=
  ∃ f fd, mg x = some (.ref f) ∧ Fun K x x st f fd ∧ Binds K fd ps [] ∧ FnM P w K mg base k f fd ps ps.length g
section
variable {P : Program} {w : World} {K : PySem.W.Frag} {mg : Str → Option Value} {base : Heap}
theorem fn_e {x : Str} {st : Stmt} {N ps : List Str} {k : Nat} {m : SS} (T : FTx K mg x st ps) (Sc : FnScope N ps (defScope st))
    (hb : ∀ (f : Addr) (cdv : Value) (A : Around) (outer : List Env) (s : Shared) (H : Hp) (E : EK), Room k (A.deeper (envOfC x (defScope st) s.heap.objs.size f cdv)) → Takes (cxOf (L2.CX P w) P w K mg base N x (defScope st) f cdv A outer s H E) (fun c d _ H => E c d H) → PSsM (cxOf (L2.CX P w) P w K mg base N x (defScope st) f cdv A outer s H E) E (defBody st) m) :
    FnE P w K mg base (k + 1) x st ps (runB N.length m) := by
  obtain ⟨f, fd, F, hm, hb'⟩ := T
  exact ⟨f, fd, hm, F, hb', fn_m F Sc (hb f)⟩
theorem fnE_bad {x : Str} {st : Stmt} {ps : List Str} {k : Nat} (T : FTx K mg x st ps) : FnE P w K mg base k x st ps (fun _ _ => .bad) := by
  obtain ⟨f, fd, F, hm, hb'⟩ := T
  exact ⟨f, fd, hm, F, hb', fn_bad⟩
theorem ftx_mk {x : Str} {st : Stmt} {ps : List Str} {h : Heap} {f : Addr} {oc : Value} {od an : Option Addr} {sl : Array (Option Value)} {kV dc pm cd ct : Value} (X : K.In h) (G : h.Ns mainGlobals mg) (a : PySem.W.nsIn K mainGlobals x = some (some (.ref f)))
    (l : K.lookup f = some ⟨oc, od, .func (PySem.W.fnOf x x (defArgs st) (defBody st) (defScope st) .none kV dc pm an cd ct), sl⟩) (c : PySem.W.codeIn K cd x = true) (k : PySem.W.keepIn K (.ref f) = true)
    (hb : ∀ (kV doc pm : Value) (an : Option Addr) (cdv ct : Value) (us : List Value), us.length = ps.length → bindArgs (PySem.W.fnOf x x (defArgs st) (defBody st) (defScope st) .none kV doc pm an cdv ct) ⟨us, []⟩ = pure (ps.zip us)) : FTx K mg x st ps :=
  let F := fun_mk (st := st) l c k
  ⟨f, _, F, PySem.W.mg_of X G a, F.binds hb⟩
end
/-- the items at these places -/
noncomputable def pIdx {α : Type} (idx : List Nat) (l : List α) : List α := idx.filterMap fun i => l[i]?
noncomputable def PKM (X : Cx) (E : EK) (kws : List Keyword) (m : SM (List W)) : Prop := PK X kws (tA X E m)
noncomputable def mCallK (idx : List Nat) (g : Fn) (mr mk : SM (List W)) : SM W := fun s S => (mr s S).bind fun us S1 => (mk s S1).bind fun ws S2 => g (pIdx idx (us ++ ws)) S2
section
variable {X : Cx} {E : EK} {pos : Pos} {a : Expr} {es : List Expr} {mr mk : SM (List W)} {k k' n : Nat} {g : Fn} {x : Str} {p : Pos} {st : Stmt} {ps : List Str} {kws : List Keyword}
theorem pm_callE [hl : Len mr n] (F : FnE X.prog X.w X.K X.mg X.base k x st ps g) (hr : Room k' X.A) (hk : k ≤ k') (tk : Takes X (fun c d _ H => E c d H)) (ha : PAM X E (a :: es) mr) (hn : n = ps.length := by rfl)
    (hg : Gl X x := by rfl) (hdb : (x == ("__debug__" : Str)) = false := by decide +kernel) (he : starEach (a :: es) X.env = (false, eval a X.env) :: starEach es X.env := by rfl) (hpl : (backTo pos (starEach es X.env)).any (·.1) = false := by rfl) : PM X E (.Call (.Name x p) (a :: es) [] pos) (mAp g mr) := by
  obtain ⟨f, fd, h1, h2, h3, h4⟩ := F
  subst hn
  exact pm_call h4 (hr.mono hk) h1 h2.kp h3 tk ha hg hdb he hpl
theorem pk_imp {t t' : TA} (h : PK X kws t) (f : ∀ σ H Q, t' σ H Q → t σ H Q) : PK X kws t' := ⟨fun pos pins s σ H Q I q => h.run pos pins s σ H Q I (f σ H Q q)⟩
theorem pkm_nil : PKM X E [] mNil := pk_imp pk_nil fun σ H Q ⟨ρ, s, S, rep, env, o⟩ => Out.here o rep .nil
theorem pkm_cons {nm : Option Str} {kpos : Pos} {ma : SM W} (ha : PM X E a ma) (hr : PKM X E kws mk) : PKM X E (⟨nm, a, kpos⟩ :: kws) (mCons ma mk) :=
  pk_imp (pk_cons ha hr) fun σ H Q h => tX.bind h fun ρ1 H1 w x s S1 rep env r o => ⟨ρ1, s, S1, rep, env, Out.bind o fun ρ2 H2 ws xs S2 e2 rep2 r2 o2 => Out.here o2 rep2 (.cons (r.ext e2) r2)⟩
end
theorem hu64 {k : Nat} {A : Around} (hr : Room k A) : A.units + 64 < cLine := hr.units
theorem hu65 {k : Nat} {A : Around} (hr : Room k A) : A.units + 65 < cLine := by have := hr.un; omega
noncomputable def mChT (g g' : W → W → Store → Res W) (ma mb mc : SM W) : SM Bool := fun s S => asB (mChain g g' ma mb mc s S)
theorem takesE0 {X : Cx} : Takes X (fun c d _ H => EN c d H) := takes0
/-- sep.join(list of texts) -/
noncomputable def strsW : List W → Option (List Str)
  | [] => some []
  | .str x :: r => (strsW r).map (x :: ·)
  | _ => none
theorem strsW_of {K : PySem.W.Frag} {mg : Str → Option Value} {ρ : RT} {H : Hp} : ∀ {ws : List W} {vs : List V} {bs : List Str}, RWs K mg ρ H ws vs → strsW ws = some bs → vs = bs.map V.str
  | _, _, _, .nil, h => by cases (Option.some.inj h : [] = _); rfl
  | _, _, _, .cons (w := w) (ws := ws) r t, h => by
    cases w with
    | str b =>
      cases e : strsW ws with
      | none => simp [strsW, e] at h
      | some bs =>
        simp [strsW, e] at h
        subst h
        cases r
        rw [strsW_of t e]
        rfl
    | _ => cases h
/-- a text's method of one argument -/
noncomputable def mM1 (g : Str → W → Store → Res W) (mo me : SM W) : SM W := fun s S => (mo s S).bind fun o S1 => match o with
  | .str a => (me s S1).bind fun w S2 => g a w S2
  | _ => .bad
noncomputable def gJoin (a : Str) (w : W) (S : Store) : Res W := match (seqA S w).bind strsW with
  | some ys => if (ys.map (·.length)).sum + ys.length * a.length ≤ 16777216 then .ok (.str (Txt.join a ys)) S else .bad
  | none => .bad
/-- a module's constants -/
theorem kcon_str {K : PySem.W.Frag} {mg : Str → Option Value} {x y : Str} {h : Heap} {t : Tok} (X : K.In h) (G : h.Ns mainGlobals mg) (a : PySem.W.nsIn K mainGlobals x = some (some (.str y t))) : KCon K mg x (.str y) := ⟨_, .str y, PySem.W.mg_of X G a, ⟨t, rfl⟩, fun _ _ => .str y⟩
theorem kcon_int {K : PySem.W.Frag} {mg : Str → Option Value} {x : Str} {y : Int} {h : Heap} {t : Tok} (X : K.In h) (G : h.Ns mainGlobals mg) (a : PySem.W.nsIn K mainGlobals x = some (some (.int y t))) : KCon K mg x (.int y) := ⟨_, .int y, PySem.W.mg_of X G a, ⟨t, rfl⟩, fun _ _ => .int y⟩
/-- a tuple of texts -/
theorem kcon_tupS {K : PySem.W.Frag} {mg : Str → Option Value} {x : Str} {h : Heap} {b : Addr} {dd : Option Addr} {its : Array Value} {n : Nat} {sl : Array (Option Value)} {ys : List Str} (X : K.In h) (G : h.Ns mainGlobals mg) (a : PySem.W.nsIn K mainGlobals x = some (some (.ref b)))
    (l : K.lookup b = some ⟨.type "tuple", dd, .seq its n, sl⟩) (hz : its.size ≤ lim) (hs : its.toList.map absV = ys.map fun y => some (V.str y)) : KCon K mg x (.tup (ys.map W.str)) := by
  refine ⟨_, .ref b, PySem.W.mg_of X G a, rfl, fun ρ H => .tup (vs := ys.map V.str) (.inr ⟨_, its, n, l, rfl, rfl, lim_line hz, ?_⟩) ?_⟩
  · have : ∀ (us : List Value) (ys : List Str), us.map absV = (ys.map fun y => some (V.str y)) → Vals (ys.map V.str) us := by
      intro us
      induction us with
      | nil => intro ys h; cases ys with
        | nil => exact .nil
        | cons _ _ => cases h
      | cons u r ih =>
        intro ys h
        cases ys with
        | nil => cases h
        | cons y ys =>
          rw [List.map_cons, List.map_cons] at h
          have h1 := (List.cons.inj h).1
          refine .cons ?_ (ih ys (List.cons.inj h).2)
          cases u with
          | str z t =>
            cases (Option.some.inj h1 : V.str z = V.str y)
            exact ⟨t, rfl⟩
          | _ => cases h1
    exact this _ _ hs
  · clear hs
    induction ys with
    | nil => exact .nil
    | cons y r ih => exact .cons (.str y) ih
end RL
end
section
set_option maxRecDepth 100000
set_option maxHeartbeats 2000000
namespace RL
open PySem PySem.Spec L2
open PyProof.Rows hiding St
/-! ### the law's end -/
end RL
end
section
set_option maxRecDepth 100000
set_option maxHeartbeats 2000000
/-! Lambdas (1): the cells of a frame as pinned objects, laid down and taken up again. -/
namespace RL
open PySem PySem.Spec L2
open PyProof.Rows hiding St
variable [Lams]
open Lams
mutual
/-- no lambda in it -/
noncomputable def noClo : W → Bool
  | .tup ws => noClos ws
  | .lst ws => noClos ws
  | .flst ws => noClos ws
  | .dic _ ws => noClos ws
  | .ins _ _ ws => noClos ws
  | .exn _ _ ws => noClos ws
  | .lam _ => false
  | .clo _ _ => false
  | .non => true
  | .bl _ => true
  | .int _ => true
  | .str _ => true
  | .ty _ => true
  | .gl _ => true
  | .ref _ => true
noncomputable def noClos : List W → Bool
  | [] => true
  | w :: ws => noClo w && noClos ws
end
noncomputable def noCloO : Ob → Bool
  | .lst ws => noClos ws
  | .dic _ ws => noClos ws
  | .ins _ _ ws => noClos ws
  | .tab _ => true
noncomputable def noCloS (S : Store) : Bool := S.all noCloO
/-- the things at C are known no more -/
noncomputable def dropC (C : List Addr) (H : Hp) : Hp := fun b => if b ∈ C then none else H b
theorem dropC_in {C : List Addr} {H : Hp} {b : Addr} (h : b ∈ C) : dropC C H b = none := if_pos h
theorem dropC_out {C : List Addr} {H : Hp} {b : Addr} (h : b ∉ C) : dropC C H b = H b := if_neg h
noncomputable def Pins (C : List Addr) (H : Hp) : Prop := ∀ c ∈ C, ∃ o, H c = some (PinO c o)
theorem Pins.ne {C : List Addr} {H : Hp} (p : Pins C H) {b : Addr} {o : HO} (e : H b = some o) (n : ∀ c u, o ≠ PinO c u) : b ∉ C := fun m => by
  obtain ⟨u, q⟩ := p b m
  rw [e] at q
  exact n b u (Option.some.inj q)
theorem Pins.at {C : List Addr} {H : Hp} (p : Pins C H) {b : Addr} {o : HO} (e : H b = some o) (n : ∀ c u, o ≠ PinO c u) : dropC C H b = some o := by rw [dropC_out (p.ne e n)]; exact e
section
variable {K : PySem.W.Frag} {mg : Str → Option Value} {ρ : RT} {H : Hp} {C : List Addr} {S : Store}
theorem Fx.drop (p : Pins C H) {a : Addr} {o : HO} (h : Fx ρ H a o) (n : ∀ c u, o ≠ PinO c u := by intro _ _ z; cases z) : Fx ρ (dropC C H) a o := ⟨p.at h.1 n, h.2⟩
mutual
theorem RW.dropK (p : Pins C H) : ∀ {w : W} {v : V}, noClo w = true → RW K mg ρ H w v → RW K mg ρ (dropC C H) w v
  | _, _, _, .non => .non
  | _, _, _, .bl b => .bl b
  | _, _, _, .int b => .int b
  | _, _, _, .str b => .str b
  | _, _, _, .ty b => .ty b
  | _, _, _, .gl h => .gl h
  | _, _, _, .ref h => .ref h
  | _, _, n, .tup h r => .tup (h.imp (fun z => z.drop p) id) (RWs.dropK p n r)
  | _, _, n, .lst h r => .lst (h.drop p) (RWs.dropK p n r)
  | _, _, n, .flst h r => .flst (h.imp (fun ⟨o, z⟩ => ⟨o, z.drop p⟩) id) (RWs.dropK p n r)
  | _, _, n, .dic h hl r => .dic (h.imp fun _ z => z.drop p) hl (RWs.dropK p n r)
  | _, _, n, .ins hc h hl r => .ins hc (h.drop p) hl (RWs.dropK p n r)
  | _, _, n, .exn hc h hd hl r => .exn hc (h.drop p) (hd.drop p) hl (RWs.dropK p n r)
  | _, _, n, .lam _ _ _ _ _ => nomatch n
  | _, _, n, .clo _ _ _ _ _ _ _ _ => nomatch n
theorem RWs.dropK (p : Pins C H) : ∀ {ws : List W} {vs : List V}, noClos ws = true → RWs K mg ρ H ws vs → RWs K mg ρ (dropC C H) ws vs
  | _, _, _, .nil => .nil
  | w :: ws, _, n, .cons h t =>
    have n' : (noClo w && noClos ws) = true := n
    .cons (RW.dropK p (Bool.and_eq_true _ _ ▸ n').1 h) (RWs.dropK p (Bool.and_eq_true _ _ ▸ n').2 t)
end
theorem RO.drop (p : Pins C H) {a : Addr} {o : Ob} (n : noCloO o = true) (h : RO K mg ρ H a o) : RO K mg ρ (dropC C H) a o := by
  cases h with
  | lst h r => exact .lst (p.at h (by intro _ _ z; cases z)) (RWs.dropK p n r)
  | dic h hl r => exact .dic (p.at h (by intro _ _ z; cases z)) hl (RWs.dropK p n r)
  | ins hc h hl r => exact .ins hc (p.at h (by intro _ _ z; cases z)) hl (RWs.dropK p n r)
  | tab ht h hk hco => exact .tab ht (p.at h (by intro _ _ z; cases z)) hk fun pos cv q => let ⟨c, h1, h2⟩ := hco pos cv q; ⟨c, h1, h2.drop p⟩
theorem noCloS_at {l : Nat} {o : Ob} (n : noCloS S = true) (e : S[l]? = some o) : noCloO o = true := List.all_eq_true.mp n o (List.mem_of_getElem? e)
theorem RepS.drop (p : Pins C H) (n : noCloS S = true) (R : RepS K mg ρ H S) : RepS K mg ρ (dropC C H) S :=
  ⟨R.len, R.nd, fun l o hl => let ⟨a, h1, h2⟩ := R.ob l o hl; ⟨a, h1, h2.drop p (noCloS_at n hl)⟩, fun a m => ⟨by
    rw [dropC_out fun z => by obtain ⟨u, q⟩ := p a z; exact R.tp a m a u q]
    exact (R.tk a m).1, (R.tk a m).2⟩, fun a m c u q => by
    by_cases hz : a ∈ C
    · rw [dropC_in hz] at q; cases q
    · rw [dropC_out hz] at q; exact R.tp a m c u q⟩
theorem RO.not {a : Addr} {o : Ob} (p : Pins C H) (h : RO K mg ρ H a o) : a ∉ C := by
  cases h with
  | lst h r => exact p.ne h (by intro _ _ z; cases z)
  | dic h hl r => exact p.ne h (by intro _ _ z; cases z)
  | ins hc h hl r => exact p.ne h (by intro _ _ z; cases z)
  | tab ht h hk hco => exact p.ne h (by intro _ _ z; cases z)
theorem RepS.not (p : Pins C H) (R : RepS K mg ρ H S) {a : Addr} (m : a ∈ ρ.r) : a ∉ C := by
  obtain ⟨i, hi⟩ := List.mem_iff_getElem?.mp m
  have hs : i < S.length := by rw [← R.len]; exact (List.getElem?_eq_some_iff.mp hi).1
  obtain ⟨a', h1, h2⟩ := R.ob i S[i] (List.getElem?_eq_getElem hs)
  rw [hi] at h1; cases h1
  exact h2.not p
theorem RepS.notT (p : Pins C H) (R : RepS K mg ρ H S) {a : Addr} (m : a ∈ ρ.t) : a ∉ C := fun z => by
  obtain ⟨u, q⟩ := p a z
  exact R.tp a m a u q
/-! back again -/
/-- .. H0's things at C are known again -/
noncomputable def undropC (C : List Addr) (H0 H : Hp) : Hp := fun b => if b ∈ C then H0 b else H b
theorem undropC_in {C : List Addr} {H0 H : Hp} {b : Addr} (h : b ∈ C) : undropC C H0 H b = H0 b := if_pos h
theorem undropC_out {C : List Addr} {H0 H : Hp} {b : Addr} (h : b ∉ C) : undropC C H0 H b = H b := if_neg h
variable {ρ2 : RT} {H2 : Hp} {S2 : Store}
/-- laid back -/
theorem undrop_ext {H0 : Hp} (hC : ∀ c ∈ C, H2 c = none) (R2 : RepS K mg ρ2 H2 S2) : Ext ρ2 H2 ρ2 (undropC C H0 H2) :=
  ⟨fun _ _ h => h, fun _ h => h, fun _ h => .inl h, fun b o e _ => by rw [undropC_out fun z => by rw [hC b z] at e; cases e]; exact e, fun _ h => .inl h, fun b _ e => by
    rw [undropC_out fun z => e (hC b z)]; exact e, rfl⟩
theorem undrop_rep {H0 : Hp} (hC : ∀ c ∈ C, H2 c = none) (R2 : RepS K mg ρ2 H2 S2) : RepS K mg ρ2 (undropC C H0 H2) S2 := by
  have e := undrop_ext (H0 := H0) hC R2
  have at_ : ∀ a, H2 a ≠ none → undropC C H0 H2 a = H2 a := fun a n => undropC_out fun z => n (hC a z)
  refine ⟨R2.len, R2.nd, fun l o hl => ?_, fun a m => ⟨?_, (R2.tk a m).2⟩, fun a m c u => ?_⟩
  · obtain ⟨a, h1, h2⟩ := R2.ob l o hl
    obtain ⟨u, hu⟩ := h2.there
    exact ⟨a, h1, h2.ext e (at_ a (by rw [hu]; simp))⟩
  · rw [at_ a (R2.tk a m).1]; exact (R2.tk a m).1
  · rw [at_ a (R2.tk a m).1]; exact R2.tp a m c u
/-- the whole way: down, along, up -/
theorem drop_through {ρ1 : RT} {H1 : Hp} {S1 : Store} (p : Pins C H1) (R1 : RepS K mg ρ1 H1 S1) (hC : ∀ c ∈ C, H2 c = none) (R2 : RepS K mg ρ2 H2 S2) (e : Ext ρ1 (dropC C H1) ρ2 H2) : Ext ρ1 H1 ρ2 (undropC C H1 H2) where
  pre := e.pre
  sub := e.sub
  newt := fun b m => by
    rcases e.newt b m with z | z
    · exact .inl z
    · by_cases hb : b ∈ C
      · exact absurd (hC b hb) (R2.tk b m).1
      · rw [dropC_out hb] at z; exact .inr z
  keep := fun b o h n => by
    by_cases hb : b ∈ C
    · rw [undropC_in hb]; exact h
    · rw [undropC_out hb]; exact e.keep b o (by rw [dropC_out hb]; exact h) n
  new := fun b m => by
    rcases e.new b m with z | z
    · exact .inl z
    · by_cases hb : b ∈ C
      · obtain ⟨u, hu⟩ := R2.mem m
        rw [hC b hb] at hu; cases hu
      · rw [dropC_out hb] at z; exact .inr z
  still := fun b m n => by
    by_cases hb : b ∈ C
    · rw [undropC_in hb]; exact n
    · rw [undropC_out hb]; exact e.still b m (by rw [dropC_out hb]; exact n)
  ce := e.ce
/-- the other way: up, along, down -/
theorem add_through {ρ1 : RT} {H1 Hp1 : Hp} {S1 : Store} (n1 : ∀ c ∈ C, H1 c = none) (same : ∀ b, b ∉ C → Hp1 b = H1 b) (there : ∀ c ∈ C, ∃ o, Hp1 c = some (PinO c o)) (R1 : RepS K mg ρ1 H1 S1) (p2 : Pins C H2) (R2 : RepS K mg ρ2 H2 S2) (e : Ext ρ1 Hp1 ρ2 H2) : Ext ρ1 H1 ρ2 (dropC C H2) where
  pre := e.pre
  sub := e.sub
  newt := fun b m => by
    rcases e.newt b m with z | z
    · exact .inl z
    · have hb : b ∉ C := R2.notT p2 m
      rw [same b hb] at z; exact .inr z
  keep := fun b o h n => by
    have hb : b ∉ C := fun z => by rw [n1 b z] at h; cases h
    rw [dropC_out hb]; exact e.keep b o (by rw [same b hb]; exact h) n
  new := fun b m => by
    rcases e.new b m with z | z
    · exact .inl z
    · have hb : b ∉ C := R2.not p2 m
      rw [same b hb] at z; exact .inr z
  still := fun b m n => by
    have hb : b ∉ C := fun z => n (n1 b z)
    rw [dropC_out hb]; exact e.still b m (by rw [same b hb]; exact n)
  ce := e.ce
/-- the cells are laid down -/
theorem add_ext {ρ1 : RT} {H1 Hp1 : Hp} {S1 : Store} (n1 : ∀ c ∈ C, H1 c = none) (same : ∀ b, b ∉ C → Hp1 b = H1 b) (R1 : RepS K mg ρ1 H1 S1) : Ext ρ1 H1 ρ1 Hp1 ∧ RepS K mg ρ1 Hp1 S1 := by
  have nc : ∀ b, H1 b ≠ none → b ∉ C := fun b n z => n (n1 b z)
  have e : Ext ρ1 H1 ρ1 Hp1 := ⟨fun _ _ h => h, fun _ h => h, fun _ h => .inl h, fun b o h _ => by rw [same b (nc b (by rw [h]; simp))]; exact h, fun _ h => .inl h, fun b _ h => by rw [same b (nc b h)]; exact h, rfl⟩
  refine ⟨e, R1.len, R1.nd, fun l o hl => ?_, fun a m => ⟨?_, (R1.tk a m).2⟩, fun a m c u => ?_⟩
  · obtain ⟨a, h1, h2⟩ := R1.ob l o hl
    obtain ⟨u, hu⟩ := h2.there
    exact ⟨a, h1, h2.ext e (same a (nc a (by rw [hu]; simp)))⟩
  · rw [same a (nc a (R1.tk a m).1)]; exact (R1.tk a m).1
  · rw [same a (nc a (R1.tk a m).1)]; exact R1.tp a m c u
end
/-! ### the model's side -/
section
variable {P : Program} {w : World} {H H' H2 : Hp} {h h' : Heap} {C : List Addr}
theorem HOk.drop (p : Pins C H) (x : HOk P w H h) : HOk P w (dropC C H) h := fun b u e => by
  have hb : b ∉ C := fun z => by rw [dropC_in z] at e; cases e
  rw [dropC_out hb] at e
  exact (x b u e).stay (fun _ _ _ q => q) (fun c q => p.at q (by intro _ _ z; cases z)) fun c xs q => p.at q (by intro _ _ z; cases z)
theorem HOk.add (n1 : ∀ c ∈ C, H c = none) (same : ∀ b, b ∉ C → H2 b = H b) (pin : ∀ c ∈ C, ∃ o, H2 c = some (PinO c o) ∧ h.get? c = some o) (x : HOk P w H h) : HOk P w H2 h := fun b u e => by
  by_cases hb : b ∈ C
  · obtain ⟨o, e1, e2⟩ := pin b hb
    rw [e1] at e; cases e
    exact pinO_ok e2
  · rw [same b hb] at e
    have nc : ∀ c u, H c = some u → H2 c = some u := fun c u q => by rw [same c fun z => by rw [n1 c z] at q; cases q]; exact q
    exact (x b u e).stay (fun _ _ _ q => q) (fun c q => nc c _ q) fun c xs q => nc c _ q
theorem HOk.undrop {B : Heap} (p : Pins C H) (hC : ∀ c ∈ C, H' c = none) (g : ∀ c ∈ C, ∀ o, H c = some (PinO c o) → B.get? c = some o) (x : HOk P w H' B) : HOk P w (undropC C H H') B := 
  HOk.add (C := C) hC (fun b hb => undropC_out hb) (fun c hc => by
    obtain ⟨o, e⟩ := p c hc
    exact ⟨o, by rw [undropC_in hc]; exact e, g c hc o e⟩) x
variable {fs : List Addr}
/-- behind a run with the pinned things unknown -/
theorem un_undrop (p : Pins C H) (hok : HOk P w H h) (u : Un fs [] (dropC C H) H' h h') (nf : ∀ c ∈ C, c ∉ fs) : Un fs [] H (undropC C H H') h h' where
  keep := fun b o e n hb hx => by
    have hc : b ∉ C := fun z => by obtain ⟨u, q⟩ := p b z; rw [n] at q; cases q
    exact u.keep b o e (by rw [dropC_out hc]; exact n) hb hx
  slot := fun b o e n hb hx => by
    have hc : b ∉ C := fun z => by obtain ⟨u, q⟩ := p b z; rw [n] at q; cases q
    exact u.slot b o e (by rw [dropC_out hc]; exact n) hb hx
  free := fun b o e n hx => by
    have hc : b ∉ C := fun z => by obtain ⟨u, q⟩ := p b z; rw [n] at q; cases q
    rw [undropC_out hc]
    exact u.free b o e (by rw [dropC_out hc]; exact n) hx
  there := u.there
  tups := fun b xs e => by
    have hc := p.ne e (by intro _ _ z; cases z)
    rw [undropC_out hc]; exact u.tups b xs (by rw [dropC_out hc]; exact e)
  frzs := fun b o v e => by
    by_cases hc : b ∈ C
    · rw [undropC_in hc]; exact e
    · rw [undropC_out hc]; exact u.frzs b o v (by rw [dropC_out hc]; exact e)
  tbls := fun b ps e => by
    have hc := p.ne e (by intro _ _ z; cases z)
    rw [undropC_out hc]; exact u.tbls b ps (by rw [dropC_out hc]; exact e)
/-- behind a run with more pinned things -/
theorem un_unadd (n1 : ∀ c ∈ C, H c = none) (same : ∀ b, b ∉ C → H2 b = H b) (pin : ∀ c ∈ C, ∃ o, H2 c = some (PinO c o) ∧ h.get? c = some o) (hok' : HOk P w H' h') (u : Un fs [] H2 H' h h') : Un fs [] H (dropC C H') h h' where
  keep := fun b o e n hb hx => by
    by_cases hc : b ∈ C
    · obtain ⟨o', e1, e2⟩ := pin b hc
      rw [e] at e2; cases e2
      exact (hok' b _ (u.frzs b o _ e1)).1
    · exact u.keep b o e (by rw [same b hc]; exact n) hb hx
  slot := fun b o e n hb hx => by
    by_cases hc : b ∈ C
    · obtain ⟨o', e1, e2⟩ := pin b hc
      rw [e] at e2; cases e2
      exact ⟨o.slots, (hok' b _ (u.frzs b o _ e1)).1⟩
    · exact u.slot b o e (by rw [same b hc]; exact n) hb hx
  free := fun b o e n hx => by
    by_cases hc : b ∈ C
    · exact dropC_in hc
    · rw [dropC_out hc]; exact u.free b o e (by rw [same b hc]; exact n) hx
  there := u.there
  tups := fun b xs e => by
    have hc : b ∉ C := fun z => by rw [n1 b z] at e; cases e
    rw [dropC_out hc]; exact u.tups b xs (by rw [same b hc]; exact e)
  frzs := fun b o v e => by
    have hc : b ∉ C := fun z => by rw [n1 b z] at e; cases e
    rw [dropC_out hc]; exact u.frzs b o v (by rw [same b hc]; exact e)
  tbls := fun b ps e => by
    have hc : b ∉ C := fun z => by rw [n1 b z] at e; cases e
    rw [dropC_out hc]; exact u.tbls b ps (by rw [same b hc]; exact e)
/-- the pinned things of H2 are pinned in what comes out -/
theorem un_pins (pin : ∀ c ∈ C, ∃ o, H2 c = some (PinO c o)) (u : Un fs [] H2 H' h h') : Pins C H' := fun c hc => by
  obtain ⟨o, e⟩ := pin c hc
  exact ⟨o, u.frzs c o _ e⟩
variable {outer : List Env} {s s' : Shared} {v : Value}
/-- the end of a call made with the pinned things unknown -/
theorem ce_undrop {Q Q' : VK} (p : Pins C H) (hok : HOk P w H s.heap) (nf : ∀ c ∈ C, c ∉ frs outer) (hq : ∀ v H', (∀ c ∈ C, H' c = none) → Q' v H' → Q v (undropC C H H')) (c : CE outer P w (dropC C H) s Q' v s') : CE outer P w H s Q v s' := by
  obtain ⟨x, H', os, bare, un, hok', r, q⟩ := c
  have hC : ∀ c ∈ C, H' c = none := fun c hc => by
    obtain ⟨o, e⟩ := p c hc
    exact un.free c o (hok c _ e).1 (dropC_in hc) (by simp)
  refine ⟨x, undropC C H H', os, bare, un_undrop p hok un nf, HOk.undrop p hC (fun c hc o e => ?_) hok', r, hq x H' hC q⟩
  exact un.keep c o (hok c _ e).1 (dropC_in hc) (nf c hc) (by simp)
theorem cx_undrop {E E' : XK} (p : Pins C H) (hok : HOk P w H s.heap) (nf : ∀ c ∈ C, c ∉ frs outer) (hq : ∀ cls d H', (∀ c ∈ C, H' c = none) → E' cls d H' → E cls d (undropC C H H')) (c : L2.CX P w outer (dropC C H) s E' v s') : L2.CX P w outer H s E v s' := by
  obtain ⟨a, B, H', cls, d, rfl, fl, hok', ub, na, os, bare, q⟩ := c
  have cg : ∀ c ∈ C, ∀ o, H c = some (PinO c o) → B.get? c = some o := fun c hc o e => ub.keep c o (hok c _ e).1 (dropC_in hc) (nf c hc)
  have hC : ∀ c ∈ C, H' c = none := fun c hc => by
    obtain ⟨o, e⟩ := p c hc
    exact ub.free c o (hok c _ e).1 (dropC_in hc)
  have ncn : ∀ b, H b = none → b ∉ C := fun b n z => by obtain ⟨u, q⟩ := p b z; rw [n] at q; cases q
  refine ⟨a, B, undropC C H H', cls, d, rfl, fl, HOk.undrop p hC cg hok', ⟨fun b o e n hb => ?_, fun b o e hb => ub.slot b o e hb, fun b o e n => ?_, ub.there, fun b xs e => ?_, fun b o xs e => ?_, fun b ps e => ?_⟩, ?_, os, bare, hq cls d H' hC q⟩
  · exact ub.keep b o e (by rw [dropC_out (ncn b n)]; exact n) hb
  · rw [undropC_out (ncn b n)]; exact ub.free b o e (by rw [dropC_out (ncn b n)]; exact n)
  · have hc := p.ne e (by intro _ _ z; cases z)
    rw [undropC_out hc]; exact ub.tups b xs (by rw [dropC_out hc]; exact e)
  · by_cases hc : b ∈ C
    · rw [undropC_in hc]; exact e
    · rw [undropC_out hc]; exact ub.frzs b o xs (by rw [dropC_out hc]; exact e)
  · have hc := p.ne e (by intro _ _ z; cases z)
    rw [undropC_out hc]; exact ub.tbls b ps (by rw [dropC_out hc]; exact e)
  · have hc : a ∉ C := fun z => by
      obtain ⟨o, e⟩ := p a z
      have := cg a z o e
      rw [fl.2.1] at this; cases this
    rw [undropC_out hc]; exact na
/-- the end of a call made with more pinned things -/
theorem ce_unadd {Q Q' : VK} (n1 : ∀ c ∈ C, H c = none) (same : ∀ b, b ∉ C → H2 b = H b) (pin : ∀ c ∈ C, ∃ o, H2 c = some (PinO c o) ∧ s.heap.get? c = some o) (hq : ∀ v H', Pins C H' → Q' v H' → Q v (dropC C H')) (c : CE outer P w H2 s Q' v s') : CE outer P w H s Q v s' := by
  obtain ⟨x, H', os, bare, un, hok', r, q⟩ := c
  have pp : Pins C H' := un_pins (fun c hc => let ⟨o, e, _⟩ := pin c hc; ⟨o, e⟩) un
  exact ⟨x, dropC C H', os, bare, un_unadd n1 same pin hok' un, HOk.drop pp hok', r, hq x H' pp q⟩
theorem cx_unadd {E E' : XK} (n1 : ∀ c ∈ C, H c = none) (same : ∀ b, b ∉ C → H2 b = H b) (pin : ∀ c ∈ C, ∃ o, H2 c = some (PinO c o) ∧ s.heap.get? c = some o) (hq : ∀ cls d H', Pins C H' → E' cls d H' → E cls d (dropC C H')) (c : L2.CX P w outer H2 s E' v s') : L2.CX P w outer H s E v s' := by
  obtain ⟨a, B, H', cls, d, rfl, fl, hok', ub, na, os, bare, q⟩ := c
  have pp : Pins C H' := fun c hc => by
    obtain ⟨o, e1, _⟩ := pin c hc
    exact ⟨o, ub.frzs c o _ e1⟩
  have nc : ∀ b u, H b = some u → b ∉ C := fun b u e z => by rw [n1 b z] at e; cases e
  refine ⟨a, B, dropC C H', cls, d, rfl, fl, HOk.drop pp hok', ⟨fun b o e n hb => ?_, fun b o e hb => ub.slot b o e hb, fun b o e n => ?_, ub.there, fun b xs e => ?_, fun b o xs e => ?_, fun b ps e => ?_⟩, ?_, os, bare, hq cls d H' pp q⟩
  · by_cases hc : b ∈ C
    · obtain ⟨o', e1, e2⟩ := pin b hc
      rw [e] at e2; cases e2
      exact (hok' b _ (ub.frzs b o _ e1)).1
    · exact ub.keep b o e (by rw [same b hc]; exact n) hb
  · by_cases hc : b ∈ C
    · exact dropC_in hc
    · rw [dropC_out hc]; exact ub.free b o e (by rw [same b hc]; exact n)
  · rw [dropC_out (nc b _ e)]; exact ub.tups b xs (by rw [same b (nc b _ e)]; exact e)
  · rw [dropC_out (nc b _ e)]; exact ub.frzs b o xs (by rw [same b (nc b _ e)]; exact e)
  · rw [dropC_out (nc b _ e)]; exact ub.tbls b ps (by rw [same b (nc b _ e)]; exact e)
  · by_cases hc : a ∈ C
    · exact dropC_in hc
    · rw [dropC_out hc]; exact na
end
end RL
end
section
set_option maxRecDepth 100000
set_option maxHeartbeats 2000000
/-! Lambdas (2): what a lambda's body is worth, called with its captured values. -/
namespace RL
open PySem PySem.Spec L2
open PyProof.Rows hiding St
variable [Lams]
open Lams
/-- a lambda's defaults in a state -/
noncomputable def DvAt (s : Shared) (ds : List Int) (dV : Value) (its : List Value) : Prop := Vals (ds.map V.int) its ∧ ((ds = [] ∧ dV = .none) ∨ ∃ t o n, dV = .ref t ∧ ds ≠ [] ∧ s.heap.get? t = some o ∧ o.data = .seq its.toArray n)
/-- its parameters take the defaults -/
noncomputable def LamB (L : Lm) (pn : List Str) : Prop := ∀ (s : Shared) (cl : List (Str × Addr)) (dV doc pm cv ctv : Value) (its : List Value), DvAt s L.ds dV its → BindsTo s (PySem.W.kdv_fn "<lambda>" L.q L.ps (.expr L.b) L.sc cl dV doc pm cv ctv) ⟨[], []⟩ (pn.zip its)
noncomputable abbrev lamE (L : Lm) (n : Nat) (f c' : Addr) (clo : List (Str × Addr)) : Env := PySem.W.envX L.q L.sc n f (.ref c') clo
/-- where its body runs -/
noncomputable def cloCx (P : Program) (w : World) (K : PySem.W.Frag) (mg : Str → Option Value) (base : Heap) (N : List Str) (L : Lm) (f c' : Addr) (clo : List (Str × Addr)) (A : Around) (outer : List Env) (s : Shared) (H : Hp) (E : XK) : Cx where
  prog := P
  w := w
  K := K
  mg := mg
  base := base
  A := A.deeper (lamE L s.heap.objs.size f c' clo)
  N := N
  s_0 := s
  H_0 := H
  env := lamE L s.heap.objs.size f c' clo
  outer := outer
  stack := lamE L s.heap.objs.size f c' clo :: outer
  ex := []
  fn := fun _ => false
  calm := true
  pn := []
  xe := fun e s' => wpAny (model P w) (A.deeper (lamE L s.heap.objs.size f c' clo)) (leaving (lamE L s.heap.objs.size f c' clo) e) (fun _ s'' => L2.CX P w outer H s E e s'') (fun e' s'' => L2.CX P w outer H s E e' s'') s'
/-- captured cells hold these values -/
structure Caps (h : Heap) (L : Lm) (clo : List (Str × Addr)) (vs : List V) : Prop where
  len : vs.length = (frees L.sc).length
  at_ : ∀ (k : Nat) (y : Str), (frees L.sc)[k]? = some y → ∃ c v u, clo.lookup y = some c ∧ vs[k]? = some v ∧ h.IsCell c (some u) ∧ RelV v u
  key : ∀ y c, clo.lookup y = some c → y ∈ frees L.sc
  inj : ∀ x y c, clo.lookup x = some c → clo.lookup y = some c → x = y
structure CloOk (P : Program) (w : World) (K : PySem.W.Frag) (mg : Str → Option Value) (base : Heap) (k : Nat) (L : Lm) (g : Fn) : Prop where
  run : ∀ (A : Around) (outer : List Env) (s : Shared) (H : Hp) (f c' : Addr) (clo : List (Str × Addr)) (dV doc pm ctv : Value) (its : List Value) (vs : List V) (Q : VK) (E : XK), Room k A → Env0 P w K mg base A outer s H →
    s.heap.get? f = some (PySem.W.kdv_obj "<lambda>" L.q L.ps (.expr L.b) L.sc clo dV doc pm c' ctv) → s.heap.CodeRec (.ref c') L.q → DvAt s L.ds dV its → Caps s.heap L clo vs → (∀ y c, clo.lookup y = some c → H c = none) →
    spM K mg (frees L.sc).length g vs H Q E → codeAny (model P w) A (.call (.ref f) ⟨[], []⟩) (CR (L2.CX P w) outer P w H s Q E) s
/-- what is asked of its names -/
noncomputable def lamSc (L : Lm) (pn : List Str) : Bool :=
  decide (L.sc.kind = .function) && !L.sc.isCoroutine && !L.sc.isGenerator && (L.sc.names.all fun y => !decide (y.2 = .cell) && (!decide (y.2 = .free) || decide (L.sc.names.lookup y.1 = some .free))) && (pn.all fun y => decide (L.sc.names.lookup y = some .local)) && decide (pn.length = L.ds.length) && decide (pn.length ≤ 1) && decide ((frees L.sc).Nodup)
structure LamSc (L : Lm) (pn : List Str) : Prop where
  kind : L.sc.kind = .function
  co : L.sc.isCoroutine = false
  gen : L.sc.isGenerator = false
  nocell : ∀ y ∈ L.sc.names, y.2 ≠ .cell
  fr : ∀ y ∈ L.sc.names, y.2 = .free → L.sc.names.lookup y.1 = some .free
  par : ∀ y ∈ pn, L.sc.names.lookup y = some .local
  pl : pn.length = L.ds.length
  p1 : pn.length ≤ 1
  nd : (frees L.sc).Nodup
theorem lamSc_by {L : Lm} {pn : List Str} (h : lamSc L pn = true) : LamSc L pn := by
  unfold lamSc at h
  simp only [Bool.and_eq_true, Bool.or_eq_true, Bool.not_eq_true', decide_eq_true_eq, decide_eq_false_iff_not, List.all_eq_true] at h
  obtain ⟨⟨⟨⟨⟨⟨⟨h1, h2⟩, h3⟩, h4⟩, h5⟩, h6⟩, h7⟩, h8⟩ := h
  exact ⟨h1, h2, h3, fun y hy => (h4 y hy).1, fun y hy e => ((h4 y hy).2).elim (fun z => absurd e z) id, h5, h6, h7, h8⟩
theorem mem_frees {sc : Scope} {y : Str} : y ∈ frees sc ↔ (y, NameKind.free) ∈ sc.names := by
  unfold frees
  rw [List.mem_map]
  constructor
  · rintro ⟨p, hp, rfl⟩
    obtain ⟨h1, h2⟩ := List.mem_filter.mp hp
    have e : p.2 = .free := of_decide_eq_true h2
    rw [← e]; exact h1
  · intro h
    exact ⟨(y, .free), List.mem_filter.mpr ⟨h, by simp⟩, rfl⟩
section
variable {P : Program} {w : World} {K : PySem.W.Frag} {mg : Str → Option Value} {base : Heap} {L : Lm} {pn N : List Str}
noncomputable def startL (L : Lm) (ws : List W) : Env' := ws.map some ++ L.ds.map fun d => some (.int d)
noncomputable def startLV (L : Lm) (vs : List V) : L2.St := vs.map some ++ L.ds.map fun d => some (.int d)
theorem lam_start {A : Around} {outer : List Env} {s : Shared} {H : Hp} {E : XK} {f c' : Addr} {clo : List (Str × Addr)} {its : List Value} {vs : List V} {h₁ : Heap} {tk : Nat} (S : LamSc L pn) (e0 : Env0 P w K mg base A outer s H) (hd : A.handled = none)
    (cp : Caps s.heap L clo vs) (hn : ∀ y c, clo.lookup y = some c → H c = none) (rv : Vals (L.ds.map V.int) its) (hns : h₁.Ns s.heap.objs.size fun y => (pn.zip its).reverse.lookup y) (kp : ∀ b o, s.heap.get? b = some o → h₁.get? b = some o) :
    Inv (cloCx P w K mg base (frees L.sc ++ pn) L f c' clo A outer s H E) [] (startLV L vs) H { s with heap := h₁, toks := tk } := by
  have noA : ∀ b : Addr, b ∉ (cloCx P w K mg base (frees L.sc ++ pn) L f c' clo A outer s H E).ex := fun b z => absurd (show b ∈ ([] : List Addr) from z) (by simp)
  have has : ∀ y, y ∈ frees L.sc → ∃ c v u, clo.lookup y = some c ∧ s.heap.IsCell c (some u) ∧ RelV v u := fun y hy => by
    obtain ⟨k, hk⟩ := List.mem_iff_getElem?.mp hy
    obtain ⟨c, v, u, h1, h2, h3, h4⟩ := cp.at_ k y hk
    exact ⟨c, v, u, h1, h3, h4⟩
  have cellK : ∀ {c : Addr} {v : Option Value}, s.heap.IsCell c v → h₁.IsCell c v := fun {c v} ⟨o, ho, hd⟩ => ⟨o, kp _ _ ho, hd⟩
  have il : its.length = pn.length := by rw [S.pl, ← rv.length, List.length_map]
  refine ⟨⟨e0.mod, S.kind, rfl, rfl, Nat.le_refl _, fun y z c e1 e2 => cp.inj y z c e1 e2, fun y hy => ?_, fun y c z _ => ?_, fun _ => hd, Around.frames_deeper e0.frames, .inr ⟨rfl, rfl⟩, fun b z => absurd z (noA b), e0.bs, e0.bsz, fun b _ _ => noA b,
      fun b z => absurd z (noA b), e0.funs, e0.frf⟩,
    rfl, e0.bare, Un.kept kp, ⟨_, hns, fun i y v e1 e2 e3 => ?_⟩, fun y c e => ?_, e0.hok.fresh (Nat.le_refl _), fun y c e => hn y c e, fun q hq => absurd (show q ∈ ([] : List (Addr × Obj)) ++ [] from hq) (by simp), e0.hok.kept kp, ?_⟩
  · have hy : L.sc.names.lookup y = some .cell ∨ L.sc.names.lookup y = some .free := hy
    rcases hy with hy | hy
    · exact absurd rfl (S.nocell _ (PySem.mem_of_lookup hy))
    · obtain ⟨c, v, u, h1, _⟩ := has y (mem_frees.mpr (PySem.mem_of_lookup hy))
      exact ⟨c, h1⟩
  · have z : false = true := z
    cases z
  · have e1 : (frees L.sc ++ pn)[i]? = some y := e1
    by_cases hi : i < (frees L.sc).length
    · rw [List.getElem?_append_left hi] at e1
      obtain ⟨c, v', u, h1, h2, h3, h4⟩ := cp.at_ i y e1
      unfold startLV at e2
      rw [List.getElem?_append_left (by rw [List.length_map, cp.len]; exact hi), List.getElem?_map, h2] at e2
      cases e2
      refine ⟨u, h4, .inr ⟨.inr ?_, c, h1, cellK h3⟩⟩
      exact S.fr (y, .free) (mem_frees.mp (List.mem_of_getElem? e1)) rfl
    · rw [List.getElem?_append_right (by omega)] at e1
      unfold startLV at e2
      rw [List.getElem?_append_right (by rw [List.length_map, cp.len]; omega), List.length_map, cp.len, List.getElem?_map] at e2
      have hp1 := S.p1
      have hj : i - (frees L.sc).length < pn.length := (List.getElem?_eq_some_iff.mp e1).1
      have hj0 : i - (frees L.sc).length = 0 := by omega
      rw [hj0] at e1 e2
      match pn, L.ds, its, e1, e2, rv, hp1, S.par with
      | [p], d :: ds, it :: its, e1, e2, rv, hp1, par =>
        cases (Option.some.inj e1 : p = y)
        cases (Option.some.inj (Option.some.inj e2) : V.int d = v)
        cases rv with
        | cons r0 rr =>
          refine ⟨it, r0, .inl ⟨par y (by simp), ?_⟩⟩
          simp
      | [p], d :: ds, [], e1, e2, rv, hp1, par => cases rv
      | [p], [], _, e1, e2, rv, hp1, par => cases e2
      | [], _, _, e1, e2, rv, hp1, par => cases e1
      | _ :: _ :: _, _, _, _, _, _, hp1, _ => simp at hp1
  · obtain ⟨k, hk⟩ := List.mem_iff_getElem?.mp (cp.key y c e)
    obtain ⟨c2, v, u, h1, h2, h3, h4⟩ := cp.at_ k y hk
    have e : clo.lookup y = some c := e
    rw [e] at h1; cases h1
    exact ⟨some u, cellK h3⟩
  · show (startLV L vs).length = (frees L.sc ++ pn).length
    unfold startLV
    rw [List.length_append, List.length_append, List.length_map, List.length_map, cp.len, S.pl]
theorem env_startL {ρ : RT} {H : Hp} {ws : List W} {vs : List V} {E : XK} (r : RWs K mg ρ H ws vs) : REnv K mg ρ H ⟨E, fun _ => none⟩ (startL L ws) (startLV L vs) := by
  have hl := r.length
  refine ⟨(fun _ _ q => nomatch q), by simp [startL, startLV, hl], fun i u hi => ?_⟩
  unfold startL at hi
  unfold startLV
  by_cases h : i < ws.length
  · rw [List.getElem?_append_left (by simpa using h), List.getElem?_map] at hi
    cases e : ws[i]? with
    | none => rw [e] at hi; cases hi
    | some u' =>
      rw [e] at hi
      cases (Option.some.inj (Option.some.inj hi) : u' = u)
      obtain ⟨v, h1, h2⟩ := r.get e
      exact ⟨v, by rw [List.getElem?_append_left (by simpa [← hl] using h), List.getElem?_map, h1]; rfl, h2⟩
  · rw [List.getElem?_append_right (by simpa using h), List.getElem?_map] at hi
    rw [List.length_map, hl] at hi
    cases e : L.ds[i - vs.length]? with
    | none => rw [e] at hi; cases hi
    | some d =>
      rw [e] at hi
      cases (Option.some.inj (Option.some.inj hi) : W.int d = u)
      exact ⟨.int d, by rw [List.getElem?_append_right (by simp; omega), List.getElem?_map, List.length_map, e]; rfl, .int d⟩
/-- what a lambda's body is worth -/
noncomputable def runL (L : Lm) (m : SM W) : Fn := fun ws S => m (startL L ws) S
theorem clo_ok {k : Nat} {m : SM W} (hs : lamSc L pn = true) (hbd : LamB L pn)
    (hb : ∀ (A : Around) (outer : List Env) (s : Shared) (H : Hp) (E : EK) (f c' : Addr) (clo : List (Str × Addr)), Room k (A.deeper (lamE L s.heap.objs.size f c' clo)) → Takes (cloCx P w K mg base (frees L.sc ++ pn) L f c' clo A outer s H E) (fun c d _ H => E c d H) →
      PM (cloCx P w K mg base (frees L.sc ++ pn) L f c' clo A outer s H E) E L.b m) : CloOk P w K mg base (k + 1) L (runL L m) := by
  have S := lamSc_by hs
  refine ⟨fun A outer s H f c' clo dV doc pm ctv its vs Q E hr e0 ho hcd dv cp hn hsp => ?_⟩
  have KX : K.In s.heap := e0.mod.kin.keeps fun b o e => (e0.bs b o e).1
  have lim : s.heap.NoLimit := e0.mod.nolimit.keeps fun b o e => (e0.bs b o e).1
  obtain ⟨ρ, S0, ws, rep, rs, hl, o⟩ := hsp
  refine PySem.W.kla_callFunE hr.depth ho rfl S.co S.gen rfl hcd (hbd s clo dV doc pm _ ctv its dv _ _ _ _ ?_)
  refine wpAny_newFunctionEnv (fun y hy => S.nocell y hy) (fun y hy => S.par _ (List.of_mem_zip hy).1) (fun h₁ hns hsb => ⟨lim.fresh _ hsb, ?_⟩) S.kind
  show codeAny _ _ (.expr L.b (lamE L s.heap.objs.size f c' clo)) _ _
  have kp : ∀ b o, s.heap.get? b = some o → h₁.get? b = some o := fun b o e => hsb.extBut b o (Nat.ne_of_lt (Heap.lt_size e)) (Heap.get?_push_of_some _ e)
  have J := lam_start (E := E) (f := f) (c' := c') (tk := s.toks + (pn.zip its).length) S e0 hr.hd cp hn dv.1 hns kp
  have hb' := hb A outer s H ⟨E, fun _ => none⟩ f c' clo (hr.deeper _) (takes_of rfl rfl rfl rfl)
  refine PySem.W.kla_codeExpr (wpAny_mono (hb'.run [] _ (startLV L vs) H Q J ⟨ρ, startL L ws, S0, rep, env_startL rs, o⟩) (fun v s' hq => ?_) fun e s' hq => hq)
  obtain ⟨w', H', J', rv, q⟩ := hq
  exact ⟨w', H', J'.os, J'.bare, J'.base, J'.hok, rv, q⟩
theorem clo_bad {k : Nat} : CloOk P w K mg base k L (fun _ _ => .bad) := ⟨fun _ _ _ _ _ _ _ _ _ _ _ _ _ _ _ _ _ _ _ _ _ _ ⟨_, _, _, _, _, _, o⟩ => o.elim⟩
theorem CloOk.mono {j k : Nat} {g : Fn} (F : CloOk P w K mg base j L g) (h : j ≤ k) : CloOk P w K mg base k L g :=
  ⟨fun A outer s H f c' clo dV doc pm ctv its vs Q E hr => F.run A outer s H f c' clo dV doc pm ctv its vs Q E (hr.mono h)⟩
end
/-! ### x(), x a lambda with its captured values -/
/-- all lambdas of the text -/
noncomputable abbrev Clos (P : Program) (w : World) (K : PySem.W.Frag) (mg : Str → Option Value) (base : Heap) (k : Nat) (F : Nat → Fn) : Prop := ∀ j, CloOk P w K mg base k (at_ j) (F j)
noncomputable def mAct (F : Nat → Fn) (mf : SM W) : SM W := fun s S => (mf s S).bind fun w S1 => match w with
  | .clo j ws => if noClos ws = true ∧ noCloS S1 = true then F j ws S1 else .bad
  | _ => .bad
section
variable {X : Cx} {E : EK} {k : Nat} {F : Nat → Fn} {mf : SM W} {x : Str} {p1 p2 : Pos}
theorem isTup_at {h : Heap} {a : Addr} {its : List Value} (p : IsTup h a its.toArray) : ∃ o n, h.get? a = some o ∧ o.data = .seq its.toArray n := by
  obtain ⟨o, h1, h2, n, h3⟩ := p
  exact ⟨o, n, h1, h3⟩
theorem pm_act (C : Clos X.prog X.w X.K X.mg X.base k F) (hr : Room k X.A) (tk : Takes X (fun c d _ H => E c d H)) (hf : PM X E (.Name x p1) mf) : PM X E (.Call (.Name x p1) [] [] p2) (mAct F mf) := by
  refine ⟨fun pins s σ H Q I h => ?_⟩
  have h := tX.bind h (Z := fun v H1 => ∃ ρ1 w S1, RepS X.K X.mg ρ1 H1 S1 ∧ RW X.K X.mg ρ1 H1 w v ∧ Out X.K X.mg (RW X.K X.mg) E ρ1 H1 (match w with
    | .clo j ws => if noClos ws = true ∧ noCloS S1 = true then F j ws S1 else .bad
    | _ => .bad) Q) fun ρ1 H1 w v s1 S1 rep env r o => ⟨ρ1, w, S1, rep, r, o⟩
  refine wpAny_Call_Name_kw (thn (hf.run pins s σ H _ I h) fun u s1 ⟨v, H1, I1, r1, ρ1, w, S1, rep, r, o⟩ => ?_)
  cases w with
  | clo j ws =>
    cases r with
    | @clo _ f c' clo dV _ vs hf hc hd hl he hk hi rs =>
      obtain rfl : u = Value.ref f := r1
      have o : Out X.K X.mg (RW X.K X.mg) E ρ1 H1 (if noClos ws = true ∧ noCloS S1 = true then F j ws S1 else .bad) Q := o
      split at o
      · rename_i hz
        obtain ⟨⟨doc, pm, ctv, of1⟩, _, _⟩ := I1.hok f _ hf.1
        refine PySem.W.callWith_F0 ⟨_, _, _, _, of1⟩ ?_
        obtain ⟨⟨oc, vs', t, hoc, hdc, hvc⟩, _, _⟩ := I1.hok c' _ hc.1
        let L := at_ j
        let Cs : List Addr := (frees L.sc).filterMap fun y => clo.lookup y
        have memC : ∀ {c : Addr}, c ∈ Cs ↔ ∃ y, clo.lookup y = some c := fun {c} => by
          constructor
          · intro m
            obtain ⟨y, _, e⟩ := List.mem_filterMap.mp m
            exact ⟨y, e⟩
          · rintro ⟨y, e⟩
            exact List.mem_filterMap.mpr ⟨y, hk y c e, e⟩
        have pins1 : Pins Cs H1 := fun c m => by
          obtain ⟨y, e⟩ := memC.mp m
          obtain ⟨i, hi'⟩ := List.mem_iff_getElem?.mp (hk y c e)
          obtain ⟨c2, v, ob, u, h1, h2, h3, h4⟩ := he i y hi'
          rw [e] at h1; cases h1
          exact ⟨ob, h3.1⟩
        have cp : Caps s1.heap L clo vs := ⟨hl, fun i y hi' => by
          obtain ⟨c2, v, ob, u, h1, h2, h3, h4, h5⟩ := he i y hi'
          exact ⟨c2, v, u, h1, h2, ⟨ob, (I1.hok c2 _ h3.1).1, h4⟩, h5⟩, hk, hi⟩
        have nf : ∀ c ∈ Cs, c ∉ frs X.stack := fun c m z => by
          obtain ⟨ob, e⟩ := pins1 c m
          rw [I1.stkFree c z] at e; cases e
        have e0 : Env0 X.prog X.w X.K X.mg X.base X.A X.stack s1 (dropC Cs H1) := by
          have e := I1.env0
          refine ⟨e.frames, e.mod, fun b ob hb => ⟨(e.bs b ob hb).1, ?_⟩, e.bsz, e.funs, fun b hb => ?_, HOk.drop pins1 e.hok, e.bare⟩
          · unfold dropC; split <;> first | rfl | exact (e.bs b ob hb).2
          · unfold dropC; split <;> first | rfl | exact e.frf b hb
        obtain ⟨its, dv⟩ : ∃ its, DvAt s1 L.ds dV its := by
          rcases hd with ⟨h1, h2⟩ | ⟨t, h1, h2, h3⟩
          · exact ⟨[], by rw [show L.ds = [] from h1]; exact .nil, .inl ⟨h1, h2⟩⟩
          · obtain ⟨_, its, rv, pt⟩ := I1.hok t _ h3.1
            obtain ⟨ob, n, e1, e2⟩ := isTup_at pt
            exact ⟨its, rv, .inr ⟨t, ob, n, h1, h2, e1, e2⟩⟩
        have hsp : spM X.K X.mg (frees L.sc).length (F j) vs (dropC Cs H1) (fun v H' => (∀ c ∈ Cs, H' c = none) → Q v (undropC Cs H1 H')) (fun cls d H' => (∀ c ∈ Cs, H' c = none) → E cls d (undropC Cs H1 H')) := by
          refine ⟨ρ1, S1, ws, rep.drop pins1 hz.2, RWs.dropK pins1 hz.1 rs, by rw [rs.length]; exact hl, ?_⟩
          cases e : F j ws S1 with
          | ok w2 S2 =>
            rw [e] at o
            exact fun ρ2 H2 v2 e2 rep2 r2 hC => o ρ2 _ v2 (drop_through pins1 rep hC rep2 e2) (undrop_rep hC rep2) (r2.ext (undrop_ext hC rep2))
          | exc cn ns es S2 =>
            rw [e] at o
            intro ρ2 H2 C d xs e2 rep2 hcl hx hlen r2 hC
            exact o ρ2 _ C d xs (drop_through pins1 rep hC rep2 e2) (undrop_rep hC rep2) hcl (hx.ext (undrop_ext hC rep2)) hlen (r2.ext (undrop_ext hC rep2))
          | bad => rw [e] at o; exact o.elim
        have rc := (C j).run X.A X.stack s1 (dropC Cs H1) f c' clo dV doc pm ctv its vs _ _ hr e0 of1 ⟨c', oc, vs', t, rfl, hoc, hdc, hvc⟩ dv cp (fun y c e => dropC_in (memC.mpr ⟨y, e⟩)) hsp
        refine wpAny_call (codeAny_mono rc fun r s2 hq => ?_)
        cases r with
        | error e => exact passM tk pins σ H1 s1 e s2 I1 (cx_undrop pins1 I1.hok nf (fun cls d H' hC q => q hC) hq)
        | ok fl =>
          cases fl with
          | ret u => exact I1.after (ce_undrop pins1 I1.hok nf (fun v H' hC q => q hC) hq)
          | next => exact False.elim hq
          | brk => exact False.elim hq
          | cont => exact False.elim hq
      · exact o.elim
  | _ => exact o.elim
end
end RL
end
section
set_option maxRecDepth 100000
set_option maxHeartbeats 2000000
/-! Lambdas (3): making one; a call that takes them along. -/
namespace RL
open PySem PySem.Spec L2
open PyProof.Rows hiding St
variable [Lams]
open Lams
/-- X runs the def x, whose lambdas these are -/
noncomputable def MkL (X : Cx) (x : Str) : Prop := ∀ P, TabOf X.K X.mg x P → ∃ c, X.env.code = .ref c ∧ LamX.TabB X.base X.mg c P
/-- .. the lambda j -/
noncomputable def mLam (l : Nat) (x : Str) (j : Nat) : SM W := fun s S => match S[l]? with
  | some (.tab y) => if y = x then .ok (.lam j) S else .bad
  | _ => .bad
theorem set_same {S : Store} {l : Nat} {o : Ob} (h : S[l]? = some o) : S.set l o = S := by
  apply List.ext_getElem?
  intro i
  by_cases hi : l = i
  · subst hi
    rw [List.getElem?_set_self (List.getElem?_eq_some_iff.mp h).1, h]
  · rw [List.getElem?_set_ne hi]
theorem upd_comm {H : Hp} {a b : Addr} {o u : HO} (n : a ≠ b) : upd (upd H a o) b u = upd (upd H b u) a o := by
  funext c
  unfold upd
  by_cases h1 : c = b
  · by_cases h2 : c = a
    · exact absurd (h2.symm.trans h1) n
    · rw [if_pos h1, if_neg h2, if_pos h1]
  · by_cases h2 : c = a
    · rw [if_neg h1, if_pos h2, if_pos h2]
    · rw [if_neg h1, if_neg h2, if_neg h2, if_neg h1]
section
variable {X : Cx} {E : EK} {pins : List (Addr × Obj)} {σ : L2.St} {H : Hp} {s : Shared} {Q : VK} {ρ : RT} {S : Store} {l j : Nat} {x : Str} {P c : Addr} {dV : Value} {ds : List Int} {pos : Pos} {params : Arguments} {body : Expr} {scope : Scope}
/-- the new function object is one of ours -/
theorem lam_rw {f c' : Addr} (ok : X.Ok) (hce : ∀ y c, X.env.cells.lookup y = some c → ρ.ce y = some c) (hL : at_ j = ⟨X.env.qual ++ "<lambda>", params, body, scope, ds⟩) (hfree : ∀ y ∈ scope.names, y.2 = .free → ∃ c, X.env.cells.lookup y.1 = some c)
    (hf : Fx ρ H f (LamO f (at_ j) (cloFrom X.env.cells scope.names []) dV c')) (hc : Fx ρ H c' (LamX.CodeO c' (X.env.qual ++ "<lambda>"))) (hd : DvOk ρ H ds dV) : RW X.K X.mg ρ H (.lam j) (.ref f) := by
  have cm : ∀ {y c}, (cloFrom X.env.cells scope.names []).lookup y = some c → X.env.cells.lookup y = some c ∧ (y, NameKind.free) ∈ scope.names := fun {y c} e => by
    rcases cloFrom_mem (PySem.mem_of_lookup e) with hm | ⟨h1, h2⟩
    · cases hm
    · obtain ⟨c1, hc⟩ := hfree _ h1 rfl
      have hc : X.env.cells.lookup y = some c1 := hc
      have e2 : c = c1 := by
        rw [h2, hc] <;> rfl
      rw [e2]
      exact ⟨hc, h1⟩
  refine .lam hf (by rw [hL]; exact hc) (by rw [hL]; exact hd) (fun y m => ?_) fun y c e => ?_
  · rw [hL] at m
    have m : (y, NameKind.free) ∈ scope.names := mem_frees.mp m
    obtain ⟨c1, h1⟩ := mem_lookup (cloFrom_has (cells := X.env.cells) (acc := []) m)
    exact ⟨c1, h1, hce y c1 (cm h1).1⟩
  · rw [hL]
    exact mem_frees.mpr (cm e).2
theorem lam_tail (I : Inv X pins σ H s) (rep : RepS X.K X.mg ρ H S) (hce : ∀ y c, X.env.cells.lookup y = some c → ρ.ce y = some c) (TB : LamX.TabB X.base X.mg c P) (hcode : X.env.code = .ref c)
    (hL : at_ j = ⟨X.env.qual ++ "<lambda>", params, body, scope, ds⟩) (hq : X.env.qual ++ "<lambda>" = x ++ ".<locals>." ++ "<lambda>") (hfree : ∀ y ∈ scope.names, y.2 = .free → ∃ c, X.env.cells.lookup y.1 = some c) (hl : ρ.r[l]? = some P) (hS : S[l]? = some (.tab x))
    (hd : DvOk ρ H ds dV) (o : Out X.K X.mg (RW X.K X.mg) E ρ H (.ok (.lam j) S) Q) :
    wpAny (model X.prog X.w) X.A (makeTail "<lambda>" (X.env.qual ++ "<lambda>") params (.expr body) scope X.env dV .none none pos pos.line) (EP X pins σ Q) X.xe s := by
  obtain ⟨P', hl', ro⟩ := rep.ob l _ hS
  rw [hl] at hl'; cases hl'
  cases ro with
  | @tab _ ps ht hP hk hco =>
    have bP : s.heap.BuiltinsAt X.mg P := TB.bm.keeps I.bk
    have hP' : s.heap.get? P = some { cls := .none, data := .fields ps } := I.hok P _ hP
    have mP : P ∈ ρ.r := List.mem_of_getElem? hl
    cases hcd : codeAmong pos ps.toList with
    | none =>
      refine PySem.W.kdv_makeTail (mg := X.mg) (c := c) (P := P) (ps := ps) (closure_ok hfree) I.ok.glob (I.mod.glob.keeps I.bk) hcode (TB.code.keeps I.bk) hP' hk hcd TB.gP bP fun c' ctv doc h' tk hx hge hlt hrec htb => ?_
      obtain ⟨c2, oc, vs, t, e2, hoc, hdd, hv⟩ := hrec
      cases e2
      have nC : H c' = none := I.hok.fresh hge
      have nPc : P ≠ c' := ne_of_none hP nC
      let q := X.env.qual ++ "<lambda>"
      let ps' := ps ++ #[rawInt pos.line, rawInt pos.col, .ref c']
      have I1 := LamX.inv_table (q := q) (t' := tk) (more := #[rawInt pos.line, rawInt pos.col, .ref c']) (h' := h') I hP (fun b ob hb e => hx b ob hb e) htb hge ⟨oc, vs, t, hoc, hdd, hv⟩
      rw [upd_comm nPc] at I1
      let H1 := upd (upd H c' (LamX.CodeO c' q)) P (.tbl ps')
      have nf : H1 h'.objs.size = none := I1.hok.fresh (Nat.le_refl _)
      let fo := PySem.W.kdv_obj "<lambda>" q params (.expr body) scope (cloFrom X.env.cells scope.names []) dV doc ((X.mg "__name__").getD .none) c' ctv
      have I2 := I1.laid (a := h'.objs.size) (o := LamO h'.objs.size (at_ j) (cloFrom X.env.cells scope.names []) dV c') (h' := h'.push fo) (t' := tk) (fun b u e => Heap.get?_push_of_some _ e) (Nat.le_refl _) (by
        refine ⟨⟨doc, (X.mg "__name__").getD .none, ctv, ?_⟩, ⟨fo, Heap.get?_push_size _ rfl⟩, fun h1 h2 ⟨d, p, ct, e⟩ k => ⟨d, p, ct, k _ e⟩⟩
        rw [hL]
        exact Heap.get?_push_size _ rfl)
      -- the store
      obtain ⟨e1, rep1⟩ := rep.tree nC (LamX.CodeO c' q)
      have cfx : Fx ρ H1 c' (LamX.CodeO c' q) := ⟨by show upd _ _ _ c' = _; rw [upd_ne (Ne.symm nPc)]; exact upd_same, rep.fresh nC⟩
      have hro : RO X.K X.mg ρ H1 P (.tab x) := by
        refine .tab (ps := ps') ht upd_same ?_ fun p' cv hcv => ?_
        · have eL : ps'.toList = ps.toList ++ [rawInt pos.line, rawInt pos.col, .ref c'] := by simp [ps']
          rw [eL]
          exact PySem.TriplesOk_snoc _ _ _ _ hk
        · have eL : ps'.toList = ps.toList ++ [rawInt pos.line, rawInt pos.col, .ref c'] := by simp [ps']
          rw [eL] at hcv
          rcases LamX.among_app _ hk hcv with z | z
          · obtain ⟨c0, g1, g2⟩ := hco p' cv z
            have g3 := g2.ext e1
            exact ⟨c0, g1, ⟨by show upd _ _ _ c0 = _; rw [upd_ne (fun z : c0 = P => g3.2.1 (by rw [z]; exact mP))]; exact g3.1, g3.2⟩⟩
          · exact ⟨c', z, by rw [← hq]; exact cfx⟩
      obtain ⟨e2, rep2⟩ := rep1.wr hl hro
      rw [set_same hS] at rep2
      obtain ⟨e3, rep3⟩ := rep2.tree nf (LamO h'.objs.size (at_ j) (cloFrom X.env.cells scope.names []) dV c')
      have e123 := (e1.trans e2).trans e3
      refine ⟨.ref h'.objs.size, _, I2, rfl, o ρ _ (.ref h'.objs.size) e123 rep3 ?_⟩
      refine lam_rw I.ok hce hL hfree (fx_new rep2 nf _) (cfx.ext e3) (hd.ext e123)
    | some cv =>
      obtain ⟨c', e, hco'⟩ := hco pos cv hcd
      subst e
      refine PySem.W.kdv_makeTailHit (mg := X.mg) (c := c) (P := P) (ps := ps) (closure_ok hfree) I.ok.glob (I.mod.glob.keeps I.bk) hcode (TB.code.keeps I.bk) hP' hk hcd bP fun ctv doc h' tk hx hsz => ?_
      let fo := PySem.W.kdv_obj "<lambda>" (X.env.qual ++ "<lambda>") params (.expr body) scope (cloFrom X.env.cells scope.names []) dV doc ((X.mg "__name__").getD .none) c' ctv
      have nf : H h'.objs.size = none := I.hok.fresh hsz
      have I2 := I.laid (a := h'.objs.size) (o := LamO h'.objs.size (at_ j) (cloFrom X.env.cells scope.names []) dV c') (h' := h'.push fo) (t' := tk) (fun b u e => Heap.get?_push_of_some _ (hx b u e)) hsz (by
        refine ⟨⟨doc, (X.mg "__name__").getD .none, ctv, ?_⟩, ⟨fo, Heap.get?_push_size _ rfl⟩, fun h1 h2 ⟨d, p, ct, e⟩ k => ⟨d, p, ct, k _ e⟩⟩
        rw [hL]
        exact Heap.get?_push_size _ rfl)
      obtain ⟨e3, rep3⟩ := rep.tree nf (LamO h'.objs.size (at_ j) (cloFrom X.env.cells scope.names []) dV c')
      refine ⟨.ref h'.objs.size, _, I2, rfl, o ρ _ (.ref h'.objs.size) e3 rep3 ?_⟩
      refine lam_rw I.ok hce hL hfree (fx_new rep nf _) ?_ (hd.ext e3)
      rw [← hq] at hco'
      exact hco'.ext e3
variable {hX : MkL X x}
/-- what making a lambda needs -/
theorem lam_at (hM : MkL X x) (hE : ∀ y c, X.env.cells.lookup y = some c → E.ce y = some c) (h : tE X E (mLam l x j) σ H Q) : ∃ ρ S P c, RepS X.K X.mg ρ H S ∧ (∀ y c, X.env.cells.lookup y = some c → ρ.ce y = some c) ∧ LamX.TabB X.base X.mg c P ∧ X.env.code = .ref c ∧ ρ.r[l]? = some P ∧ S[l]? = some (.tab x) ∧ Out X.K X.mg (RW X.K X.mg) E ρ H (.ok (.lam j) S) Q := by
  obtain ⟨ρ, sW, S, rep, env, o⟩ := h
  unfold mLam at o
  cases e : S[l]? with
  | none => rw [e] at o; exact o.elim
  | some ob =>
    rw [e] at o
    cases ob with
    | tab y =>
      dsimp only at o
      split at o
      · rename_i hy
        subst hy
        obtain ⟨P, hl, ro⟩ := rep.ob l _ e
        cases ro with
        | tab ht hP hk hco =>
          obtain ⟨c, h1, h2⟩ := hM P ht
          exact ⟨ρ, S, P, c, rep, fun y c q => env.ce y c (hE y c q), h2, h1, hl, e, o⟩
      · exact o.elim
    | _ => exact o.elim
/-- lambda: body -/
theorem pm_lam0 (hM : MkL X x) (hE : ∀ y c, X.env.cells.lookup y = some c → E.ce y = some c) (l j : Nat) (hL : at_ j = ⟨X.env.qual ++ "<lambda>", params, body, scope, []⟩ := by rfl) (hq : X.env.qual ++ "<lambda>" = x ++ ".<locals>." ++ "<lambda>" := by rfl)
    (hfree : ∀ y ∈ scope.names, y.2 = .free → ∃ c, X.env.cells.lookup y.1 = some c) (hdef : defaultsOf params X.env = ([], []) := by rfl) : PM X E (.Lambda params body scope pos) (mLam l x j) := by
  refine ⟨fun pins s σ H Q I h => ?_⟩
  obtain ⟨ρ, S, P, c, rep, hce, TB, hcode, hl, hS, o⟩ := lam_at hM hE h
  refine PySem.W.kla_eval hdef ?_
  rw [makeFunction_eq]
  simp only [List.zip_nil_right, List.filterMap_nil, List.isEmpty_nil, if_true, pure_bind]
  exact lam_tail I rep hce TB hcode hL hq hfree hl hS (.inl ⟨rfl, rfl⟩) o
/-- lambda y=d: body -/
theorem pm_lam1 {d : Int} {kk} {dp : Pos} (hM : MkL X x) (hE : ∀ y c, X.env.cells.lookup y = some c → E.ce y = some c) (l j : Nat) (hL : at_ j = ⟨X.env.qual ++ "<lambda>", params, body, scope, [d]⟩ := by rfl) (hq : X.env.qual ++ "<lambda>" = x ++ ".<locals>." ++ "<lambda>" := by rfl)
    (hfree : ∀ y ∈ scope.names, y.2 = .free → ∃ c, X.env.cells.lookup y.1 = some c) (hdv : params.defaults = [.Constant (.int d) kk dp] := by rfl) (hk0 : params.kw_defaults = [] := by rfl) : PM X E (.Lambda params body scope pos) (mLam l x j) := by
  refine ⟨fun pins s σ H Q I h => ?_⟩
  obtain ⟨ρ, S, P, c, rep, hce, TB, hcode, hl, hS, o⟩ := lam_at hM hE h
  refine PySem.W.kdv_lam (by rw [hdv]; rfl) hk0 ?_
  rw [hdv]
  refine PySem.W.kdv_all1 (thn ((pe_int (X := X) (i := d) (j := kk) (pos := dp)).run pins s σ H (fun v H1 => v = .int d ∧ H1 = H) I ⟨rfl, rfl⟩) fun u s1 ⟨v, H1, I1, r1, ev, eH⟩ => PySem.W.kdv_all0 ?_)
  subst ev
  rw [eH] at I1
  rw [makeFunction_eq]
  simp only [List.zip_nil_right, List.filterMap_nil, List.isEmpty_nil, List.isEmpty_cons, if_true, pure_bind, Bool.false_eq_true, if_false]
  refine wpAny_bind (wpAny_newTextTuple ?_)
  have nt : H s1.heap.objs.size = none := I1.hok.fresh (Nat.le_refl _)
  have I2 := I1.laid (a := s1.heap.objs.size) (o := .tup [.int d]) (h' := s1.heap.push { cls := .type "tuple", data := .seq [u].toArray }) (t' := s1.toks) (fun b u e => Heap.get?_push_of_some _ e) (Nat.le_refl _)
    ⟨by rw [sizeLine_eq]; simp, [u], .cons r1 .nil, ⟨_, Heap.get?_push_size _ rfl, rfl, _, rfl⟩⟩
  obtain ⟨e1, rep1⟩ := rep.tree nt (.tup [.int d])
  exact lam_tail I2 rep1 hce TB hcode hL hq hfree hl hS (.inr ⟨_, rfl, by simp, fx_new rep nt _⟩) (Out.ext e1 o)
end
end RL
end
section
set_option maxRecDepth 100000
set_option maxHeartbeats 2000000
/-! Lambdas (4): a call that takes lambdas of this frame along. -/
namespace RL
open PySem PySem.Spec L2
open PyProof.Rows hiding St
variable [Lams]
open Lams
/-- the values in these slots -/
noncomputable def slotsW (s : Env') : List Nat → Option (List W)
  | [] => some []
  | i :: r => match s[i]?, slotsW s r with
    | some (some w), some ws => some (w :: ws)
    | _, _ => none
/-- ix: the lambdas of the frame, the slots that they take -/
noncomputable def closeW (ix : List (Nat × List Nat)) (s : Env') : W → Option W
  | .lam j => match ix.lookup j with
    | some is => (slotsW s is).map (.clo j)
    | none => none
  | w => some w
noncomputable def closeL (ix : List (Nat × List Nat)) (s : Env') : List W → Option (List W)
  | [] => some []
  | w :: ws => match closeW ix s w, closeL ix s ws with
    | some u, some us => some (u :: us)
    | _, _ => none
noncomputable def closeA (ix : List (Nat × List Nat)) (s : Env') : W → Option W
  | .lst ws => (closeL ix s ws).map .lst
  | w => closeW ix s w
noncomputable def closeAs (ix : List (Nat × List Nat)) (s : Env') : List W → Option (List W)
  | [] => some []
  | w :: ws => match closeA ix s w, closeAs ix s ws with
    | some u, some us => some (u :: us)
    | _, _ => none
noncomputable def ixB (N : List Str) (sc : Scope) (ix : List (Nat × List Nat)) : Bool :=
  ix.all fun p => decide (p.2.map (N[·]?) = (frees (at_ p.1).sc).map some) && (frees (at_ p.1).sc).all fun y => decide (sc.names.lookup y = some .cell) || decide (sc.names.lookup y = some .free)
/-- no lambda comes out -/
noncomputable def cutR : Res W → Res W
  | .ok w S => if noClo w = true ∧ noCloS S = true then .ok w S else .bad
  | .exc c ns ws S => if noClos ws = true ∧ noCloS S = true then .exc c ns ws S else .bad
  | .bad => .bad
theorem ix_mem : ∀ {ix : List (Nat × List Nat)} {j : Nat} {is : List Nat}, ix.lookup j = some is → (j, is) ∈ ix
  | (a, b) :: r, j, is, h => by
    rw [List.lookup_cons] at h
    by_cases e : (j == a) = true
    · rw [e] at h
      cases (Option.some.inj h : b = is)
      rw [beq_iff_eq.mp e]; exact List.mem_cons_self
    · have e' : (j == a) = false := by simpa using e
      rw [e'] at h
      exact List.mem_cons_of_mem _ (ix_mem h)
/-- the cells of X -/
noncomputable def cellsX (X : Cx) : List Addr := X.env.cells.filterMap fun p => X.env.cells.lookup p.1
theorem mem_cellsX {X : Cx} {c : Addr} : c ∈ cellsX X ↔ ∃ y, X.env.cells.lookup y = some c := by
  unfold cellsX
  constructor
  · intro m
    obtain ⟨p, _, e⟩ := List.mem_filterMap.mp m
    exact ⟨p.1, e⟩
  · rintro ⟨y, e⟩
    exact List.mem_filterMap.mpr ⟨(y, c), PySem.mem_of_lookup e, e⟩
/-- .. known just as they stand -/
noncomputable def withC (X : Cx) (h : Heap) (H : Hp) : Hp := fun b => if b ∈ cellsX X then (h.get? b).map fun o => PinO b o else H b
section
variable {X : Cx} {E : EK} {pins : List (Addr × Obj)} {σ : L2.St} {H : Hp} {s : Shared} {ρ : RT}
theorem withC_pin (I : Inv X pins σ H s) : ∀ c ∈ cellsX X, ∃ o, withC X s.heap H c = some (PinO c o) ∧ s.heap.get? c = some o := fun c m => by
  obtain ⟨y, e⟩ := mem_cellsX.mp m
  obtain ⟨v, o, ho, hd⟩ := I.cell y c e
  exact ⟨o, by unfold withC; rw [if_pos m, ho]; rfl, ho⟩
theorem withC_none (I : Inv X pins σ H s) : ∀ c ∈ cellsX X, H c = none := fun c m => let ⟨y, e⟩ := mem_cellsX.mp m; I.freeC y c e
theorem withC_out {h : Heap} : ∀ b, b ∉ cellsX X → withC X h H b = H b := fun b n => if_neg n
theorem withC_env0 (I : Inv X pins σ H s) (hfn : ∀ y, X.fn y = true) : Env0 X.prog X.w X.K X.mg X.base X.A X.stack s (withC X s.heap H) := by
  have e := I.env0
  have lo : ∀ c ∈ cellsX X, X.s_0.heap.objs.size ≤ c := fun c m => let ⟨y, q⟩ := mem_cellsX.mp m; I.ok.cab y c (hfn y) q
  refine ⟨e.frames, e.mod, fun b ob hb => ⟨(e.bs b ob hb).1, ?_⟩, e.bsz, e.funs, fun b hb => ?_, HOk.add (withC_none I) withC_out (withC_pin I) e.hok, e.bare⟩
  · rw [withC_out b fun z => ?_]
    · exact (e.bs b ob hb).2
    · exact absurd (Nat.lt_of_lt_of_le (Heap.lt_size hb) (Nat.le_trans I.ok.bsz (lo b z))) (Nat.lt_irrefl _)
  · rw [withC_out b fun z => ?_]
    · exact e.frf b hb
    · obtain ⟨y, q⟩ := mem_cellsX.mp z
      rcases List.mem_cons.mp (I.stkSub b hb) with k | k
      · exact I.cne y b q k
      · obtain ⟨_, o, ho, _⟩ := I.ok.funs.mem k
        exact absurd (Nat.lt_of_lt_of_le (Heap.lt_size ho) (lo b z)) (Nat.lt_irrefl _)
theorem slotsW_of {s' : Env'} (env : REnv X.K X.mg ρ H E s' σ) : ∀ {is : List Nat} {us : List W}, slotsW s' is = some us → ∃ vs : List V, RWs X.K X.mg ρ H us vs ∧ vs.length = is.length ∧ ∀ (k i : Nat), is[k]? = some i → ∃ v, vs[k]? = some v ∧ σ[i]? = some (some v)
  | [], us, h => by cases (Option.some.inj h : [] = us); exact ⟨[], .nil, rfl, fun k i e => by simp at e⟩
  | i :: r, us, h => by
    unfold slotsW at h
    cases e1 : s'[i]? with
    | none => rw [e1] at h; cases h
    | some q =>
      cases q with
      | none => rw [e1] at h; cases h
      | some w =>
        cases e2 : slotsW s' r with
        | none => rw [e1, e2] at h; cases h
        | some ws =>
          rw [e1, e2] at h
          cases (Option.some.inj h : w :: ws = us)
          obtain ⟨v, h1, h2⟩ := env.look i w e1
          obtain ⟨vs, g1, g2, g3⟩ := slotsW_of env e2
          refine ⟨v :: vs, .cons h2 g1, by rw [List.length_cons, List.length_cons, g2], fun k i' e => ?_⟩
          cases k with
          | zero =>
            cases (Option.some.inj (by simpa using e) : i = i')
            exact ⟨v, by simp, h1⟩
          | succ k =>
            obtain ⟨v', k1, k2⟩ := g3 k i' (by simpa using e)
            exact ⟨v', by simpa using k1, k2⟩
variable {ix : List (Nat × List Nat)} {s' : Env'} {S : Store}
theorem closeW_of (I : Inv X pins σ H s) (hE : ∀ y c, X.env.cells.lookup y = some c → E.ce y = some c) (hix : ixB X.N X.env.scope ix = true) (rep : RepS X.K X.mg ρ H S) (env : REnv X.K X.mg ρ H E s' σ) {w u : W} {v : V} (h : closeW ix s' w = some u) (r : RW X.K X.mg ρ H w v) : RW X.K X.mg ρ (withC X s.heap H) u v := by
  obtain ⟨ex, rep'⟩ := add_ext (withC_none I) (withC_out (h := s.heap)) rep
  have other : some w = some u → RW X.K X.mg ρ (withC X s.heap H) u v := fun e => by cases e; exact r.ext ex
  cases w with
  | lam j =>
    unfold closeW at h
    dsimp only at h
    cases e : ix.lookup j with
    | none => rw [e] at h; cases h
    | some is =>
      rw [e] at h
      dsimp only at h
      cases e2 : slotsW s' is with
      | none => rw [e2] at h; cases h
      | some us =>
        rw [e2] at h
        cases (Option.some.inj h : W.clo j us = u)
        have hb := List.all_eq_true.mp hix (j, is) (ix_mem e)
        simp only [Bool.and_eq_true, Bool.or_eq_true, decide_eq_true_eq, List.all_eq_true] at hb
        obtain ⟨hb1, hb2⟩ := hb
        obtain ⟨vs, g1, g2, g3⟩ := slotsW_of env e2
        cases r with
        | @lam _ f c' clo dV hf hc hd he hk =>
          have same : ∀ y c, clo.lookup y = some c → X.env.cells.lookup y = some c := fun y c q => by
            have my := hk y c q
            obtain ⟨c1, h1, h2⟩ := he y my
            rw [q] at h1; cases h1
            obtain ⟨c0, h0⟩ := I.ok.has y (hb2 y my)
            have h3 := env.ce y c0 (hE y c0 h0)
            rw [h2] at h3; cases h3
            exact h0
          have hlen : is.length = (frees (at_ j).sc).length := by
            have := congrArg List.length hb1
            simpa using this
          refine .clo (hf.ext ex) (hc.ext ex) (hd.ext ex) (vs := vs) (by rw [g2, hlen]) (fun k y hy => ?_) hk (fun y z c q1 q2 => I.ok.inj y z c (same y c q1) (same z c q2)) (g1.ext ex)
          have my : y ∈ frees (at_ j).sc := List.mem_of_getElem? hy
          obtain ⟨c, h1, _⟩ := he y my
          have hc0 := same y c h1
          have hk' : (is.map (X.N[·]?))[k]? = some (some y) := by rw [hb1, List.getElem?_map, hy]; rfl
          rw [List.getElem?_map] at hk'
          cases ei : is[k]? with
          | none => rw [ei] at hk'; cases hk'
          | some i =>
            rw [ei] at hk'
            have hN : X.N[i]? = some y := Option.some.inj hk'
            obtain ⟨v', k1, k2⟩ := g3 k i ei
            obtain ⟨m, hn, hl⟩ := I.loc
            have hkind := hb2 y my
            obtain ⟨u', r', q⟩ := hl i y v' hN k2 (hkind.elim (fun z => .inr (.inl z)) fun z => .inr (.inr z))
            have cell : s.heap.IsCell c (some u') := by
              rcases q with ⟨kk, _⟩ | ⟨_, c2, e', z⟩
              · have kk : X.env.scope.names.lookup y = some .local := kk
                rcases hkind with z | z <;> rw [z] at kk <;> cases kk
              · rw [hc0] at e'; cases e'
                exact z
            obtain ⟨o, ho, hd'⟩ := cell
            have mc : c ∈ cellsX X := mem_cellsX.mpr ⟨y, hc0⟩
            obtain ⟨o', p1, p2⟩ := withC_pin I c mc
            rw [ho] at p2; cases p2
            exact ⟨c, v', o, u', h1, k1, ⟨p1, rep.fresh (withC_none I c mc)⟩, hd', r'⟩
  | _ => exact other h
theorem closeL_of (I : Inv X pins σ H s) (hE : ∀ y c, X.env.cells.lookup y = some c → E.ce y = some c) (hix : ixB X.N X.env.scope ix = true) (rep : RepS X.K X.mg ρ H S) (env : REnv X.K X.mg ρ H E s' σ) : ∀ {ws us : List W} {vs : List V}, closeL ix s' ws = some us → RWs X.K X.mg ρ H ws vs → RWs X.K X.mg ρ (withC X s.heap H) us vs
  | [], us, _, h, .nil => by cases (Option.some.inj h : [] = us); exact .nil
  | w :: ws, us, _, h, .cons r rs => by
    unfold closeL at h
    cases e1 : closeW ix s' w with
    | none => rw [e1] at h; cases h
    | some u =>
      cases e2 : closeL ix s' ws with
      | none => rw [e1, e2] at h; cases h
      | some us' =>
        rw [e1, e2] at h
        cases (Option.some.inj h : u :: us' = us)
        exact .cons (closeW_of I hE hix rep env e1 r) (closeL_of I hE hix rep env e2 rs)
theorem closeA_of (I : Inv X pins σ H s) (hE : ∀ y c, X.env.cells.lookup y = some c → E.ce y = some c) (hix : ixB X.N X.env.scope ix = true) (rep : RepS X.K X.mg ρ H S) (env : REnv X.K X.mg ρ H E s' σ) {w u : W} {v : V} (h : closeA ix s' w = some u) (r : RW X.K X.mg ρ H w v) : RW X.K X.mg ρ (withC X s.heap H) u v := by
  have other : closeW ix s' w = some u → RW X.K X.mg ρ (withC X s.heap H) u v := fun e => closeW_of I hE hix rep env e r
  cases w with
  | lst ws =>
    unfold closeA at h
    dsimp only at h
    cases e : closeL ix s' ws with
    | none => rw [e] at h; cases h
    | some us =>
      rw [e] at h
      cases (Option.some.inj h : W.lst us = u)
      cases r with
      | lst hf rs =>
        obtain ⟨ex, _⟩ := add_ext (withC_none I) (withC_out (h := s.heap)) rep
        exact .lst (hf.ext ex) (closeL_of I hE hix rep env e rs)
  | _ => exact other h
theorem closeAs_of (I : Inv X pins σ H s) (hE : ∀ y c, X.env.cells.lookup y = some c → E.ce y = some c) (hix : ixB X.N X.env.scope ix = true) (rep : RepS X.K X.mg ρ H S) (env : REnv X.K X.mg ρ H E s' σ) : ∀ {ws us : List W} {vs : List V}, closeAs ix s' ws = some us → RWs X.K X.mg ρ H ws vs → RWs X.K X.mg ρ (withC X s.heap H) us vs
  | [], us, _, h, .nil => by cases (Option.some.inj h : [] = us); exact .nil
  | w :: ws, us, _, h, .cons r rs => by
    unfold closeAs at h
    cases e1 : closeA ix s' w with
    | none => rw [e1] at h; cases h
    | some u =>
      cases e2 : closeAs ix s' ws with
      | none => rw [e1, e2] at h; cases h
      | some us' =>
        rw [e1, e2] at h
        cases (Option.some.inj h : u :: us' = us)
        exact .cons (closeA_of I hE hix rep env e1 r) (closeAs_of I hE hix rep env e2 rs)
/-- what is wanted, asked of a run that knows the cells -/
theorem out_cut {H1 : Hp} {S1 : Store} {r : Res W} {Q : VK} (I : Inv X pins σ H1 s) (rep : RepS X.K X.mg ρ H1 S1) (o : Out X.K X.mg (RW X.K X.mg) E ρ H1 (cutR r) Q) :
    Out X.K X.mg (RW X.K X.mg) (fun cls d H' => Pins (cellsX X) H' → E cls d (dropC (cellsX X) H')) ρ (withC X s.heap H1) r (fun v H' => Pins (cellsX X) H' → Q v (dropC (cellsX X) H')) := by
  have th : ∀ c ∈ cellsX X, ∃ o, withC X s.heap H1 c = some (PinO c o) := fun c m => let ⟨o, e, _⟩ := withC_pin I c m; ⟨o, e⟩
  cases r with
  | ok w2 S2 =>
    have o : Out X.K X.mg (RW X.K X.mg) E ρ H1 (if noClo w2 = true ∧ noCloS S2 = true then Res.ok w2 S2 else .bad) Q := o
    split at o
    · rename_i hz
      exact fun ρ2 H2 v2 e2 rep2 r2 pp => o ρ2 _ v2 (add_through (withC_none I) withC_out th rep pp rep2 e2) (rep2.drop pp hz.2) (RW.dropK pp hz.1 r2)
    · exact o.elim
  | exc cn ns es S2 =>
    have o : Out X.K X.mg (RW X.K X.mg) E ρ H1 (if noClos es = true ∧ noCloS S2 = true then Res.exc cn ns es S2 else .bad) Q := o
    split at o
    · rename_i hz
      intro ρ2 H2 C d xs e2 rep2 hcl hx hlen r2 pp
      exact o ρ2 _ C d xs (add_through (withC_none I) withC_out th rep pp rep2 e2) (rep2.drop pp hz.2) hcl (hx.drop pp) hlen (RWs.dropK pp hz.1 r2)
    · exact o.elim
  | bad => exact o.elim
end
/-- f(.. lambdas of this frame ..) -/
noncomputable def mCallC (ix : List (Nat × List Nat)) (g : Fn) (mr : SM (List W)) : SM W := fun s S => (mr s S).bind fun ws S1 => match closeAs ix s ws with
  | some us => cutR (g us S1)
  | none => .bad
theorem closeAs_len {ix : List (Nat × List Nat)} {s : Env'} : ∀ {ws us : List W}, closeAs ix s ws = some us → us.length = ws.length
  | [], us, h => by cases (Option.some.inj h : [] = us); rfl
  | w :: ws, us, h => by
    unfold closeAs at h
    cases e1 : closeA ix s w with
    | none => rw [e1] at h; cases h
    | some u =>
      cases e2 : closeAs ix s ws with
      | none => rw [e1, e2] at h; cases h
      | some us' =>
        rw [e1, e2] at h
        cases (Option.some.inj h : u :: us' = us)
        rw [List.length_cons, List.length_cons, closeAs_len e2]
section
variable {X : Cx} {E : EK} {pos : Pos} {a : Expr} {es : List Expr} {mr : SM (List W)} {k k' n : Nat} {g : Fn} {x : Str} {p : Pos} {st : Stmt} {ps : List Str}
theorem pm_callC [hl : Len mr n] (ix : List (Nat × List Nat)) (F : FnE X.prog X.w X.K X.mg X.base k x st ps g) (hr : Room k' X.A) (hk : k ≤ k') (tk : Takes X (fun c d _ H => E c d H)) (hfn : ∀ y, X.fn y = true) (hE : ∀ y c, X.env.cells.lookup y = some c → E.ce y = some c) (hix : ixB X.N X.env.scope ix = true)
    (ha : PAM X E (a :: es) mr) (hn : n = ps.length := by rfl)
    (hg : Gl X x := by rfl) (hdb : (x == ("__debug__" : Str)) = false := by decide +kernel) (he : starEach (a :: es) X.env = (false, eval a X.env) :: starEach es X.env := by rfl) (hpl : (backTo pos (starEach es X.env)).any (·.1) = false := by rfl) : PM X E (.Call (.Name x p) (a :: es) [] pos) (mCallC ix g mr) := by
  obtain ⟨f, fd, h1, h2, h3, h4⟩ := F
  subst hn
  refine ⟨fun pins s σ H Q I h => ?_⟩
  obtain ⟨ρ, sW, S, rep, env, o⟩ := h
  refine wpAny_Call_Name_kw (ld_glob I hg h1 ?_ hdb)
  have hq : tA X E mr σ H (fun vs H1 => ∃ ρ1 ws S1, RepS X.K X.mg ρ1 H1 S1 ∧ REnv X.K X.mg ρ1 H1 E sW σ ∧ RWs X.K X.mg ρ1 H1 ws vs ∧ ws.length = ps.length ∧ Out X.K X.mg (RW X.K X.mg) E ρ1 H1 (match closeAs ix sW ws with
    | some us => cutR (g us S1)
    | none => .bad) Q) := by
    refine ⟨ρ, sW, S, rep, env, ?_⟩
    unfold mCallC at o
    cases e : mr sW S with
    | ok ws S1 =>
      rw [e] at o
      exact fun ρ1 H1 vs x rep1 r => ⟨ρ1, ws, S1, rep1, env.ext x, r, hl.len _ _ _ _ e, Out.ext x o⟩
    | exc c ns ws S1 => rw [e] at o; exact o
    | bad => rw [e] at o; exact o
  refine PySem.W.callWith_K (h₀ := X.base) I.ok.mod.kin h2.kp (thn (ha.run pos pins s σ H _ I hq) fun us s1 ⟨vs, H1, I1, r, ρ1, ws, S1, rep1, env1, rs, hlen, o1⟩ => ⟨I1.kIn, ?_⟩) he hpl
  cases e : closeAs ix sW ws with
  | none => rw [e] at o1; exact o1.elim
  | some ws' =>
    rw [e] at o1
    have rs' := closeAs_of I1 hE hix rep1 env1 e rs
    obtain ⟨ex, rep2⟩ := add_ext (withC_none I1) (withC_out (h := s1.heap)) rep1
    have hsp : spM X.K X.mg ps.length g vs (withC X s1.heap H1) (fun v H' => Pins (cellsX X) H' → Q v (dropC (cellsX X) H')) (fun cls d H' => Pins (cellsX X) H' → E cls d (dropC (cellsX X) H')) :=
      ⟨ρ1, S1, ws', rep2, rs', by rw [closeAs_len e]; exact hlen, out_cut I1 rep1 o1⟩
    have hb := h3 s1 us I1.kIn (by rw [List.append_nil, ← r.length, ← hlen]; exact rs.length.symm)
    rw [List.append_nil] at hb
    refine wpAny_call (codeAny_mono (h4.run X.A X.stack s1 (withC X s1.heap H1) ⟨us, []⟩ us vs _ _ (hr.mono hk) (withC_env0 I1 hfn) hb r hsp) fun rr s2 hq => ?_)
    cases rr with
    | error e => exact passM tk pins σ H1 s1 e s2 I1 (cx_unadd (withC_none I1) withC_out (withC_pin I1) (fun cls d H' pp q => q pp) hq)
    | ok fl =>
      cases fl with
      | ret u => exact I1.after (ce_unadd (withC_none I1) withC_out (withC_pin I1) (fun v H' pp q => q pp) hq)
      | next => exact False.elim hq
      | brk => exact False.elim hq
      | cont => exact False.elim hq
end
end RL
end
section
set_option maxRecDepth 100000
set_option maxHeartbeats 2000000
/-! Lambdas (5): defs that make lambdas; defs that return one. -/
namespace RL
open PySem PySem.Spec L2
open PyProof.Rows hiding St
variable [Lams]
open Lams
section
variable {K : PySem.W.Frag} {mg : Str → Option Value} {ρ : RT} {H : Hp} {S : Store} {ce : Str → Option Addr}
mutual
/-- other cells to speak of -/
theorem RW.ceq : ∀ {w : W} {v : V}, noClo w = true → RW K mg ρ H w v → RW K mg ⟨ρ.r, ρ.t, ce⟩ H w v
  | _, _, _, .non => .non
  | _, _, _, .bl b => .bl b
  | _, _, _, .int b => .int b
  | _, _, _, .str b => .str b
  | _, _, _, .ty b => .ty b
  | _, _, _, .gl h => .gl h
  | _, _, _, .ref h => .ref h
  | _, _, n, .tup h r => .tup h (RWs.ceq n r)
  | _, _, n, .lst h r => .lst h (RWs.ceq n r)
  | _, _, n, .flst h r => .flst h (RWs.ceq n r)
  | _, _, n, .dic h hl r => .dic h hl (RWs.ceq n r)
  | _, _, n, .ins hc h hl r => .ins hc h hl (RWs.ceq n r)
  | _, _, n, .exn hc h hd hl r => .exn hc h hd hl (RWs.ceq n r)
  | _, _, n, .lam _ _ _ _ _ => nomatch n
  | _, _, n, .clo _ _ _ _ _ _ _ _ => nomatch n
theorem RWs.ceq : ∀ {ws : List W} {vs : List V}, noClos ws = true → RWs K mg ρ H ws vs → RWs K mg ⟨ρ.r, ρ.t, ce⟩ H ws vs
  | _, _, _, .nil => .nil
  | w :: ws, _, n, .cons h t =>
    have n' : (noClo w && noClos ws) = true := n
    .cons (RW.ceq (Bool.and_eq_true _ _ ▸ n').1 h) (RWs.ceq (Bool.and_eq_true _ _ ▸ n').2 t)
end
theorem RO.ceq {a : Addr} {o : Ob} (n : noCloO o = true) (h : RO K mg ρ H a o) : RO K mg ⟨ρ.r, ρ.t, ce⟩ H a o := by
  cases h with
  | lst h r => exact .lst h (RWs.ceq n r)
  | dic h hl r => exact .dic h hl (RWs.ceq n r)
  | ins hc h hl r => exact .ins hc h hl (RWs.ceq n r)
  | tab ht h hk hco => exact .tab ht h hk hco
theorem RepS.ceq (n : noCloS S = true) (R : RepS K mg ρ H S) : RepS K mg ⟨ρ.r, ρ.t, ce⟩ H S :=
  ⟨R.len, R.nd, fun l o hl => let ⟨a, h1, h2⟩ := R.ob l o hl; ⟨a, h1, h2.ceq (noCloS_at n hl)⟩, R.tk, R.tp⟩
/-- there and back -/
theorem ext_ce {ρ2 : RT} {H2 : Hp} (e : Ext ⟨ρ.r, ρ.t, ce⟩ H ρ2 H2) : Ext ρ H ⟨ρ2.r, ρ2.t, ρ.ce⟩ H2 := ⟨e.pre, e.sub, e.newt, e.keep, e.new, e.still, rfl⟩
end
/-- the code object of the def x and its table, in the base -/
noncomputable def TabK (base : Heap) (K : PySem.W.Frag) (mg : Str → Option Value) (x : Str) : Prop := K.In base ∧ ∀ (f c : Addr) (oc : Value) (od : Option Addr) (fd : FuncData) (osl : Array (Option Value)) (P : Addr),
  mg x = some (.ref f) → K.lookup f = some ⟨oc, od, .func fd, osl⟩ → fd.code = .ref c → PySem.W.CodeHd base c P → LamX.TabB base mg c P
section
variable {P : Program} {w : World} {K : PySem.W.Frag} {mg : Str → Option Value} {base : Heap}
/-- F.okX, its code told -/
theorem okX2 {x qual : Str} {st : Stmt} {f : Addr} {fd : FuncData} {N ps : List Str} {k : Nat} {sp : Sp} (F : Fun K x qual st f fd) (S : FnScope N ps (defScope st)) (len : ∀ vs H Q E, sp vs H Q E → vs.length = ps.length)
    (hbody : ∀ (cdv : Value) (A : Around) (outer : List Env) (s : Shared) (H : Hp) (vs : List V) (Q : VK) (E : XK), fd.code = cdv → (∃ oc od osl, K.lookup f = some ⟨oc, od, .func fd, osl⟩) → Room k (A.deeper (envOfC qual (defScope st) s.heap.objs.size f cdv)) → sp vs H Q E →
      ∃ t, PSs (cxOf (L2.CX P w) P w K mg base N qual (defScope st) f cdv A outer s H E) (defBody st) t ∧ t { nx := fun _ H' => Q .non H', rt := Q } (L2.start N vs) H) : FnOk P w K mg base (L2.CX P w) (k + 1) f fd ps sp := by
  obtain ⟨oc, od, kV, doc, pm, an, cdv, ct, osl, rfl, lk, hcd⟩ := F.ex
  exact fn_of lk hcd S len fun A outer s H vs Q E hr hsp => hbody cdv A outer s H vs Q E rfl ⟨_, _, _, lk⟩ hr hsp
theorem mkL_of {X : Cx} {x : Str} {f : Addr} {fd : FuncData} {oc : Value} {od : Option Addr} {osl : Array (Option Value)} (T : TabK X.base X.K X.mg x) (hm : X.mg x = some (.ref f)) (lk : X.K.lookup f = some ⟨oc, od, .func fd, osl⟩) (hc : fd.code = X.env.code) : MkL X x := fun P ⟨f', c, oc', od', fd', osl', h1, h2, h3, h4⟩ => by
  rw [hm] at h1; cases h1
  rw [lk] at h2; cases h2
  exact ⟨c, hc ▸ h3, T.2 f c _ _ _ _ P hm lk h3 (h4 _ T.1)⟩
/-- a body that makes lambdas -/
noncomputable def runMk (n : Nat) (m : SS) : Fn := fun ws S => if noClos ws = true ∧ noCloS S = true then cutR (runB n m ws S) else .bad
theorem out_ceq {ρ : RT} {H : Hp} {E : EK} {ce : Str → Option Addr} {r : Res W} {Q : VK} (o : Out K mg (RW K mg) E ρ H (cutR r) Q) : Out K mg (RW K mg) E ⟨ρ.r, ρ.t, ce⟩ H r Q := by
  cases r with
  | ok w2 S2 =>
    have o : Out K mg (RW K mg) E ρ H (if noClo w2 = true ∧ noCloS S2 = true then Res.ok w2 S2 else .bad) Q := o
    split at o
    · rename_i hz
      exact fun ρ2 H2 v2 e2 rep2 r2 => o ⟨ρ2.r, ρ2.t, ρ.ce⟩ H2 v2 (ext_ce e2) (rep2.ceq hz.2) (RW.ceq hz.1 r2)
    · exact o.elim
  | exc cn ns es S2 =>
    have o : Out K mg (RW K mg) E ρ H (if noClos es = true ∧ noCloS S2 = true then Res.exc cn ns es S2 else .bad) Q := o
    split at o
    · rename_i hz
      exact fun ρ2 H2 C d xs e2 rep2 hcl hx hlen r2 => o ⟨ρ2.r, ρ2.t, ρ.ce⟩ H2 C d xs (ext_ce e2) (rep2.ceq hz.2) hcl hx hlen (RWs.ceq hz.1 r2)
    · exact o.elim
  | bad => exact o.elim
theorem fn_mk {x qual : Str} {st : Stmt} {f : Addr} {fd : FuncData} {N ps : List Str} {k : Nat} {m : SS} (F : Fun K x qual st f fd) (Sc : FnScope N ps (defScope st)) (hm : mg x = some (.ref f)) (T : TabK base K mg x)
    (hb : ∀ (cdv : Value) (A : Around) (outer : List Env) (s : Shared) (H : Hp) (E : EK), Room k (A.deeper (envOfC qual (defScope st) s.heap.objs.size f cdv)) → Takes (cxOf (L2.CX P w) P w K mg base N qual (defScope st) f cdv A outer s H E) (fun c d _ H => E c d H) →
      MkL (cxOf (L2.CX P w) P w K mg base N qual (defScope st) f cdv A outer s H E) x → (∀ y c, (envOfC qual (defScope st) s.heap.objs.size f cdv).cells.lookup y = some c → E.ce y = some c) → PSsM (cxOf (L2.CX P w) P w K mg base N qual (defScope st) f cdv A outer s H E) E (defBody st) m) :
    FnM P w K mg base (k + 1) f fd ps ps.length (runMk N.length m) := by
  refine okX2 F Sc (fun vs H Q E h => ?_) (fun cdv A outer s H vs Q E hcv hlk hr h => ?_)
  · obtain ⟨ρ, S, ws, rep, rs, hn, _⟩ := h
    rw [← rs.length]; exact hn
  · obtain ⟨oc, od, osl, lk⟩ := hlk
    refine ⟨_, hb cdv A outer s H ⟨E, fun y => (envOfC qual (defScope st) s.heap.objs.size f cdv).cells.lookup y⟩ hr (takes_of rfl rfl rfl rfl) (mkL_of T hm lk hcv) (fun _ _ q => q), ?_⟩
    obtain ⟨ρ, S, ws, rep, rs, hn, o⟩ := h
    unfold runMk at o
    split at o
    · rename_i hz
      have o := out_ceq (E := ⟨E, fun _ => none⟩) (ce := fun y => (envOfC qual (defScope st) s.heap.objs.size f cdv).cells.lookup y) o
      refine ⟨⟨ρ.r, ρ.t, fun y => (envOfC qual (defScope st) s.heap.objs.size f cdv).cells.lookup y⟩, startW N.length ws, S, rep.ceq hz.2, env_start (RWs.ceq hz.1 rs) (fun _ _ q => q), ?_⟩
      unfold runB at o
      show OutS K mg ⟨E, _⟩ _ H (m (startW N.length ws) S) _
      cases e : m (startW N.length ws) S with
      | ok p S1 =>
        obtain ⟨fl, s1⟩ := p
        rw [e] at o
        cases fl with
        | nx => exact fun ρ' H' σ' x rep' env' => o ρ' H' .non x rep' .non
        | rt u => exact o
        | bk => exact o.elim
        | ct => exact o.elim
      | exc c ns ws' S1 => rw [e] at o; exact o
      | bad => rw [e] at o; exact o
    · exact o.elim
/-- return a lambda -/
noncomputable def retOk : W → Bool
  | .clo _ us => noClos us
  | w => noClo w
theorem RW.ret {ρ : RT} {H : Hp} {ce : Str → Option Addr} {w : W} {v : V} (n : retOk w = true) (r : RW K mg ρ H w v) : RW K mg ⟨ρ.r, ρ.t, ce⟩ H w v := by
  cases w with
  | clo j us => cases r with | clo hf hc hd hl he hk hi rs => exact .clo hf hc hd hl he hk hi (RWs.ceq n rs)
  | _ => exact RW.ceq n r
end
section
variable {P : Program} {w : World} {K : PySem.W.Frag} {mg : Str → Option Value} {base : Heap}
theorem fn_mkE {x : Str} {st : Stmt} {N ps : List Str} {k : Nat} {m : SS} (T : FTx K mg x st ps) (Sc : FnScope N ps (defScope st)) (TK : TabK base K mg x)
    (hb : ∀ (f : Addr) (cdv : Value) (A : Around) (outer : List Env) (s : Shared) (H : Hp) (E : EK), Room k (A.deeper (envOfC x (defScope st) s.heap.objs.size f cdv)) → Takes (cxOf (L2.CX P w) P w K mg base N x (defScope st) f cdv A outer s H E) (fun c d _ H => E c d H) →
      MkL (cxOf (L2.CX P w) P w K mg base N x (defScope st) f cdv A outer s H E) x → (∀ y c, (envOfC x (defScope st) s.heap.objs.size f cdv).cells.lookup y = some c → E.ce y = some c) → PSsM (cxOf (L2.CX P w) P w K mg base N x (defScope st) f cdv A outer s H E) E (defBody st) m) :
    FnE P w K mg base (k + 1) x st ps (runMk N.length m) := by
  obtain ⟨f, fd, F, hm, hb'⟩ := T
  exact ⟨f, fd, hm, F, hb', fn_mk F Sc hm TK (hb f)⟩
end
end RL
namespace RL
open PySem PySem.Spec L2
open PyProof.Rows hiding St
variable [Lams]
open Lams
/-! ### for the printed texts -/
noncomputable def exprOf : Stmt → Expr
  | .Return (some e) _ => e
  | .Assign _ e _ => e
  | .AugAssign _ _ e _ => e
  | .Expr e _ => e
  | .If e _ _ _ => e
  | .While e _ _ _ => e
  | .For _ e _ _ _ => e
  | _ => default
noncomputable def kids : Expr → List Expr
  | .Call f as ks _ => f :: (as ++ ks.map (·.value))
  | .List es _ => es
  | .Tuple es _ _ => es
  | .BinOp a _ b _ => [a, b]
  | .BoolOp _ vs _ => vs
  | .Compare a _ cs _ => a :: cs
  | .UnaryOp _ a _ => [a]
  | .Subscript a b _ => [a, b]
  | .Attribute a _ _ => [a]
  | .IfExp a b c _ => [a, b, c]
  | .ListComp e gs _ _ => e :: gs.map (·.iter)
  | .Starred e _ => [e]
  | _ => []
noncomputable def stAt (l : List Stmt) (i : Nat) : Stmt := l.getD i (.Pass ⟨0, 0, 0, 0⟩)
noncomputable def kidAt (e : Expr) (i : Nat) : Expr := (kids e).getD i default
noncomputable def lamOf (q : Str) (ds : List Int) : Expr → Lm
  | .Lambda p b sc _ => ⟨q, p, b, sc, ds⟩
  | _ => default
/-- the names that the inner scope takes are the outer scope's -/
noncomputable def frB (sc inner : Scope) : Bool := inner.names.all fun y => !decide (y.2 = .free) || decide (sc.names.lookup y.1 = some .cell) || decide (sc.names.lookup y.1 = some .free)
theorem frB_of {sc inner : Scope} (h : frB sc inner = true) : ∀ y ∈ inner.names, y.2 = .free → sc.names.lookup y.1 = some .cell ∨ sc.names.lookup y.1 = some .free := fun y hy e => by
  have z := List.all_eq_true.mp h y hy
  simp only [Bool.or_eq_true, Bool.not_eq_true', decide_eq_true_eq, decide_eq_false_iff_not] at z
  rcases z with (z | z) | z
  · exact absurd e z
  · exact .inl z
  · exact .inr z
section
variable {X : Cx} {E : EK} {x : Str} {pos : Pos} {params : Arguments} {body : Expr} {scope : Scope}
theorem pm_of {e : Expr} {m : SM W} (h : X.Ok → PM X E e m) : PM X E e m := ⟨fun pins s σ H Q I q => (h I.ok).run pins s σ H Q I q⟩
theorem pm_lam0B (hM : MkL X x) (hE : ∀ y c, X.env.cells.lookup y = some c → E.ce y = some c) (l j : Nat) (hfr : frB X.env.scope scope = true) (hL : at_ j = ⟨X.env.qual ++ "<lambda>", params, body, scope, []⟩ := by rfl) (hq : X.env.qual ++ "<lambda>" = x ++ ".<locals>." ++ "<lambda>" := by rfl)
    (hdef : defaultsOf params X.env = ([], []) := by rfl) : PM X E (.Lambda params body scope pos) (mLam l x j) := pm_of fun ok => pm_lam0 hM hE l j hL hq (fun y m e => ok.has y.1 (frB_of hfr y m e)) hdef
theorem pm_lam1B {d : Int} {kk} {dp : Pos} (hM : MkL X x) (hE : ∀ y c, X.env.cells.lookup y = some c → E.ce y = some c) (l j : Nat) (hfr : frB X.env.scope scope = true) (hL : at_ j = ⟨X.env.qual ++ "<lambda>", params, body, scope, [d]⟩ := by rfl) (hq : X.env.qual ++ "<lambda>" = x ++ ".<locals>." ++ "<lambda>" := by rfl)
    (hdv : params.defaults = [.Constant (.int d) kk dp] := by rfl) (hk0 : params.kw_defaults = [] := by rfl) : PM X E (.Lambda params body scope pos) (mLam l x j) := pm_of fun ok => pm_lam1 hM hE l j hL hq (fun y m e => ok.has y.1 (frB_of hfr y m e)) hdv hk0
end
section
variable {P : Program} {w : World} {K : PySem.W.Frag} {mg : Str → Option Value} {base : Heap} {L : Lm} {pn N : List Str}
theorem clo_okN {k : Nat} {m : SM W} (hN : frees L.sc ++ pn = N) (hs : lamSc L pn = true) (hbd : LamB L pn)
    (hb : ∀ (A : Around) (outer : List Env) (s : Shared) (H : Hp) (E : EK) (f c' : Addr) (clo : List (Str × Addr)), Room k (A.deeper (lamE L s.heap.objs.size f c' clo)) → Takes (cloCx P w K mg base N L f c' clo A outer s H E) (fun c d _ H => E c d H) →
      PM (cloCx P w K mg base N L f c' clo A outer s H E) E L.b m) : CloOk P w K mg base (k + 1) L (runL L m) := by
  subst hN
  exact clo_ok hs hbd hb
theorem lamB0 (h0 : L.ds = []) (h : ∀ (cl : List (Str × Addr)) (doc pm cv ctv : Value), bindArgs (PySem.W.kdv_fn "<lambda>" L.q L.ps (.expr L.b) L.sc cl .none doc pm cv ctv) ⟨[], []⟩ = pure []) : LamB L [] := fun s cl dV doc pm cv ctv its dv => by
  obtain ⟨rv, h1⟩ := dv
  rw [h0] at rv h1
  cases rv
  rcases h1 with ⟨_, rfl⟩ | ⟨t, o, n, _, hne, _⟩
  · exact .of_eq (h cl doc pm cv ctv)
  · exact absurd rfl hne
theorem lamB1 {d : Int} {p : Str} (h1 : L.ds = [d]) (h : ∀ (cl : List (Str × Addr)) (t : Addr) (doc pm cv ctv : Value), ∃ k, bindArgs (PySem.W.kdv_fn "<lambda>" L.q L.ps (.expr L.b) L.sc cl (.ref t) doc pm cv ctv) ⟨[], []⟩ = (seqItems? (.ref t) >>= k) ∧ ∀ i : Value, k (some #[i]) = pure [(p, i)]) : LamB L [p] := fun s cl dV doc pm cv ctv its dv => by
  obtain ⟨rv, h2⟩ := dv
  rw [h1] at rv h2
  cases rv with
  | cons r rr =>
    cases rr
    rcases h2 with ⟨z, _⟩ | ⟨t, o, n, rfl, _, e1, e2⟩
    · cases z
    · obtain ⟨k, k1, k2⟩ := h cl t doc pm cv ctv
      exact BindsTo.of_defaults rfl e1 e2 k1 (k2 _)
end
theorem pm_actE {X : Cx} {E : EK} {k k' : Nat} {F : Nat → Fn} {mf : SM W} {x : Str} {p1 p2 : Pos} (C : Clos X.prog X.w X.K X.mg X.base k F) (hr : Room k' X.A) (hk : k ≤ k') (tk : Takes X (fun c d _ H => E c d H)) (hf : PM X E (.Name x p1) mf) : PM X E (.Call (.Name x p1) [] [] p2) (mAct F mf) :=
  pm_act (fun j => (C j).mono hk) hr tk hf
end RL
end
section
set_option maxRecDepth 100000
set_option maxHeartbeats 4000000
/-! try: .. / except (A, B, C) as e: .., the exception known in the suite -/
namespace RL
open PySem PySem.Spec L2
open PyProof.Rows hiding St
variable [Lams]
section
variable {X : Cx} {pins pn' : List (Addr × Obj)} {σ : L2.St} {H : Hp} {s : Shared}
/-- the suite's state: the exception is known -/
theorem inv_suiteT {a C : Addr} {d : Option Addr} {oe : Obj} {vs : Array Value} (J : Inv X pins σ H s) (he : s.heap.get? a = some oe) (hc : oe.cls = .ref C) (hdd : oe.dict = d) (hd : oe.data = .fields vs) (na : H a = none) (n0 : X.s_0.heap.get? a = none) (nL : a ≠ X.env.locals) (nP : ∀ p ∈ X.pn ++ pins, p.1 ≠ a) :
    Inv (X.suite a (X.pn ++ pins)) [] σ (upd H a (exw a C d)) s := by
  refine ⟨J.ok.suite _ _, J.os, J.bare, ⟨J.base.keep, J.base.slot, fun b o e n hx => ?_, J.base.there, fun b xs e => ?_, fun b o xs e => ?_, fun b ps e => ?_⟩, J.loc, J.cell, ?_, fun y c e => ?_, fun p hp => ?_, fun b u e => ?_, J.len⟩
  · rw [upd_ne (fun z : b = a => by rw [z] at e; exact nomatch (n0.symm.trans e))]
    exact J.base.free b o e n hx
  · have q := J.base.tups b xs e
    rw [upd_ne (ne_of_none q na)]; exact q
  · have q := J.base.frzs b o xs e
    rw [upd_ne (ne_of_none q na)]; exact q
  · obtain ⟨more, q⟩ := J.base.tbls b ps e
    exact ⟨more, by rw [upd_ne (ne_of_none q na)]; exact q⟩
  · show upd H a (exw a C d) X.env.locals = none
    rw [upd_ne (Ne.symm nL)]; exact J.free
  · have e : X.env.cells.lookup y = some c := e
    obtain ⟨v, o, ho, hdc⟩ := J.cell y c e
    rw [upd_ne (fun z : c = a => by rw [z, he] at ho; cases ho; rw [hd] at hdc; cases hdc)]
    exact J.freeC y c e
  · have hp' : p ∈ X.pn ++ pins := by rw [List.append_nil] at hp; exact hp
    obtain ⟨h1, h2, h3⟩ := J.pin p hp'
    exact ⟨h1, by rw [upd_ne (nP p hp')]; exact h2, h3⟩
  · by_cases hb : b = a
    · subst hb; rw [upd_same] at e; cases e
      exact exw_ok he hc hdd hd
    · rw [upd_ne hb] at e
      exact (J.hok b u e).stay (fun _ _ _ q => q) (fun c q => by rw [upd_ne (ne_of_none q na)]; exact q) fun c xs q => by rw [upd_ne (ne_of_none q na)]; exact q
theorem inv_unsuiteT {a : Addr} (I : Inv (X.suite a (X.pn ++ pins)) pn' σ H s) (ok : X.Ok) : Inv X pins σ H s where
  ok := ok
  os := I.os
  bare := I.bare
  base := I.base
  loc := I.loc
  cell := I.cell
  free := I.free
  freeC := I.freeC
  pin := fun p hp => I.pin p (List.mem_append_left _ hp)
  hok := I.hok
  len := I.len
theorem flyZ_kept {B h h' : Heap} {l : List Env} {a : Addr} {Z : Obj → Prop} (f : HandSPX.FlyingZ B l a Z h) (k : ∀ b o, h.get? b = some o → h'.get? b = some o) : HandSPX.FlyingZ B l a Z h' := by
  obtain ⟨f1, f2, f3, oe, vs, T, oT, ts, he, hz, hd, h1, hnT, hTe, hT, hdT, h3⟩ := f
  exact ⟨fun b o e => k b o (f1 b o e), f2, f3.of_keeps fun b o e _ => ⟨o, k b o e, rfl⟩, oe, vs, T, oT, ts, k _ _ he, hz, hd, h1, hnT, hTe, k _ _ hT, hdT, h3⟩
/-- an exception that this frame has caught: y the state without it, s the state with it -/
structure Fell (X : Cx) (pins : List (Addr × Obj)) (σ : L2.St) (H : Hp) (B : Heap) (y : Shared) (a : Addr) (cls : Value) (d : Option Addr) (s : Shared) : Prop where
  inv : Inv X pins σ H y
  ground : ∀ b o, y.heap.get? b = some o → b ∉ frs X.stack → B.get? b = some o
  fly : HandSPX.FlyingZ B X.stack a (Zc cls d) s.heap
  up : y.heap.UpToSlots s.heap
  new : H a = none
  os : s.os = y.os
  bare : AllBare s.gens
section
variable {B : Heap} {y : Shared} {a : Addr} {cls : Value} {d : Option Addr}
/-- it goes on with another heap -/
theorem Fell.move (f : Fell X pins σ H B y a cls d s) {h : Heap} {t : Nat} (fl : HandSPX.FlyingZ B X.stack a (Zc cls d) h) (u : s.heap.UpToSlots h) : Fell X pins σ H B y a cls d { s with heap := h, toks := t } :=
  { f with fly := fl, up := f.up.trans u }
theorem Fell.here (f : Fell X pins σ H B y a cls d s) : Inv X pins σ H s := f.inv.landed f.ground f.fly.1 f.up f.os f.bare
theorem Fell.notIn (f : Fell X pins σ H B y a cls d s) : a ∉ frs X.stack ∧ y.heap.get? a = none := by
  obtain ⟨o, vs, e, _, fd⟩ := f.fly.there
  have out : a ∉ frs X.stack := fun m => (f.fly.2.2.1.mem m).elim fun _ ⟨u, eu, nu⟩ => nu vs (by rw [e] at eu; exact (Option.some.inj eu) ▸ fd)
  exact ⟨out, Option.eq_none_iff_forall_ne_some.mpr fun u q => nomatch (f.fly.2.1.symm.trans (f.ground a u q out))⟩
theorem Fell.apart (f : Fell X pins σ H B y a cls d s) (hs : X.stack = X.env :: X.outer) (hf : X.env.frame = some X.env.locals) : a ≠ X.env.locals ∧ a ∉ X.fs := by
  have n := f.notIn.1
  rw [hs] at n
  have n' : a ∉ X.env.locals :: X.fs := by
    unfold frs at n
    rw [List.filterMap_cons, hf] at n
    exact n
  exact ⟨fun z => n' (z ▸ List.mem_cons_self), fun z => n' (List.mem_cons_of_mem _ z)⟩
theorem Fell.suite {C : Addr} (f : Fell X pins σ H B y a (.ref C) d s) (hs : X.stack = X.env :: X.outer) (hf : X.env.frame = some X.env.locals) (hex : X.ex = []) : Inv (X.suite a (X.pn ++ pins)) [] σ (upd H a (exw a C d)) s := by
  obtain ⟨o, vs, e, z, fd⟩ := f.fly.there
  have gone := f.notIn.2
  refine inv_suiteT f.here e z.1 z.2 fd f.new (Option.eq_none_iff_forall_ne_some.mpr fun u q => ?_) (f.apart hs hf).1 fun p m z => ?_
  · obtain ⟨_, q'⟩ := f.inv.base.there a u q (by rw [hex]; exact List.not_mem_nil)
    exact nomatch gone.symm.trans q'
  · have q := (f.inv.pin p m).1
    rw [z] at q
    exact nomatch gone.symm.trans q
/-- the frame notes what was raised in the body -/
theorem fell_of {M : Model} {A : Around} {E₁ : Value → Shared → Prop} {W : WX} {xe : Value → Shared → Prop} {u : Value} {Q : Unit → Shared → Prop} (ok : X.Ok) (hs : X.stack = X.env :: X.outer) (hf : X.env.frame = some X.env.locals) (hfr : A.frames = some (X.env :: X.outer)) (x : XE (X.tr (X.pn ++ pins) xe) W u s)
    (hq : ∀ a σ H B y cls d h, u = .ref a → Fell X pins σ H B y a cls d { s with heap := h } → W cls d σ H → Q () { s with heap := h }) :
    wpAny M A (noteFrame u X.env) (fun _ s₂ => wpAny M A (setFlight u none) Q E₁ s₂) E₁ s := by
  obtain ⟨a, B, y, ps, σ, H, cls, d, eu, I, gr, up, sky, new, os, bare, w⟩ := x
  subst eu
  have sky1 : Sky B (X.env :: X.outer) a (Zc cls d) X.env.locals s.heap := hs ▸ sky
  exact Sky.land Zc.steady hfr hf sky1 fun h fl u => hq a σ H B y cls d h rfl ⟨I.ofTry ok, gr, hs.symm ▸ fl, up.trans u, new, os, bare⟩ w
/-- it is of none of the classes: it flies on -/
theorem Fell.on {A : Around} {Wout : WX} {Q : Flow → Shared → Prop} (f : Fell X pins σ H B y a cls d s) (hf : X.env.frame = some X.env.locals) (tk : Takes X Wout) (w : Wout cls d σ H) :
    wpAny (model X.prog X.w) A (setFlight (.ref a) X.env.frame) (fun _ s4 => wpAny (model X.prog X.w) A (throw (.ref a) : Sem Flow) Q X.xe s4) X.xe s := by
  rw [hf]
  exact HandSPX.setFlight_upZ f.fly fun h hh u => wpAny_throw (tk _ _ ⟨a, B, y, pins, σ, H, cls, d, rfl, f.inv, f.ground, f.up.trans u, .inr (.inr hh), f.new, f.os, f.bare, w⟩)
end
/-- the ends of a try's body are the ends of the try -/
theorem sp_try {D : Ends} {xe : Value → Shared → Prop} (ok : X.Ok) : ∀ {f : Flow}, SP (X.tr (X.pn ++ pins) xe) [] D f s → SP X pins D f s
  | .next, ⟨σ, H, J, q⟩ => ⟨σ, H, J.ofTry ok, q⟩
  | .brk, ⟨σ, H, J, q⟩ => ⟨σ, H, J.ofTry ok, q⟩
  | .cont, ⟨σ, H, J, q⟩ => ⟨σ, H, J.ofTry ok, q⟩
  | .ret _, ⟨v, σ, H, J, r, q⟩ => ⟨v, σ, H, J.ofTry ok, r, q⟩
/-- the ends behind the clause's name is gone -/
noncomputable abbrev goneD (i : Nat) (D : Ends) : Ends := { nx := fun σ' H' => D.nx (σ'.set i none) H', rt := D.rt, bk := fun σ' H' => D.bk (σ'.set i none) H', ct := fun σ' H' => D.ct (σ'.set i none) H' }
theorem sp_suite {M : Model} {A : Around} {E₁ : Value → Shared → Prop} {D : Ends} {a : Addr} {i : Nat} {n : Str} {pos : Pos} (ok : X.Ok) (hN : X.N.Nodup) (hi : X.N[i]? = some n) (hln : X.env.kindOf n = some .local) :
    ∀ {f : Flow}, SP (X.suite a (X.pn ++ pins)) [] (goneD i D) f s → wpAny M A (do bindName X.env n .none; unbindBehindTheSuite X.env n pos) (fun _ s7 => SP X pins D f s7) E₁ s
  | .next, ⟨_, _, S, q⟩ => gone_ok (inv_unsuiteT S ok) hN hi hln fun _ J => ⟨_, _, J, q⟩
  | .brk, ⟨_, _, S, q⟩ => gone_ok (inv_unsuiteT S ok) hN hi hln fun _ J => ⟨_, _, J, q⟩
  | .cont, ⟨_, _, S, q⟩ => gone_ok (inv_unsuiteT S ok) hN hi hln fun _ J => ⟨_, _, J, q⟩
  | .ret _, ⟨_, _, _, S, r, q⟩ => gone_ok (inv_unsuiteT S ok) hN hi hln fun _ J => ⟨_, _, _, J, r, q⟩
/-- what the clause wishes of an exception of the body -/
noncomputable def wT (K : PySem.W.Frag) (cs : List Value) (i : Nat) (ts : TS) (Wout : WX) (D : Ends) : WX := fun cls d σ H =>
  ∃ b, PySem.W.exmAny K cls cs = some b ∧ (b = true → ∃ C, cls = .ref C ∧ ∀ a, H a = none → ts (goneD i D) (σ.set i (some (.ref a))) (upd H a (exw a C d))) ∧ (b = false → Wout cls d σ H)
end
section
variable {X : Cx} {x1 x2 x3 n : Str} {C1 C2 C3 : Addr} {i : Nat} {body suite : List Stmt} {b₀ : Stmt} {p1 p2 p3 tp pos pos' : Pos} {kk : Nat} {tb : WX → TS} {ts : TS} {Wout : WX}
theorem ps_tryT (hs : X.stack = X.env :: X.outer) (hf : X.env.frame = some X.env.locals) (hex : X.ex = []) (hN : X.N.Nodup) (hi : X.N[i]? = some n) (hln : X.env.kindOf n = some .local) (tk : Takes X Wout)
    (g1 : Gl X x1) (m1 : X.mg x1 = some (.ref C1)) (g2 : Gl X x2) (m2 : X.mg x2 = some (.ref C2)) (g3 : Gl X x3) (m3 : X.mg x3 = some (.ref C3)) (d1 : (x1 == ("__debug__" : Str)) = false) (d2 : (x2 == ("__debug__" : Str)) = false) (d3 : (x3 == ("__debug__" : Str)) = false)
    (hb : ∀ (W : WX) (pn : List (Addr × Obj)) (xe : Value → Shared → Prop), Takes (X.tr pn xe) W → PSs (X.tr pn xe) body (tb W)) (hsu : ∀ (a : Addr) (pn : List (Addr × Obj)), PSs (X.suite a pn) (b₀ :: suite) ts) :
    PS X (.Try body [.ExceptHandler (some (.Tuple [.Name x1 p1, .Name x2 p2, .Name x3 p3] kk tp)) (some n) (b₀ :: suite) pos'] [] [] pos) (fun D σ H => tb (wT X.K [.ref C1, .ref C2, .ref C3] i ts Wout D) D σ H) where
  run := fun pins s σ H D I h => by
    have hfr : X.A.frames = some (X.env :: X.outer) := hs ▸ I.ok.frames
    refine wpAny_Try_except (wpAny_mono ((hb _ (X.pn ++ pins) (fun e s₁ => wpAny (model X.prog X.w) X.A (noteFrame e X.env) (fun _ s₂ => wpAny (model X.prog X.w) X.A (setFlight e none) (fun _ s₃ =>
      wpAny (model X.prog X.w) X.A (handleBy e X.env [.ExceptHandler (some (.Tuple [.Name x1 p1, .Name x2 p2, .Name x3 p3] kk tp)) (some n) (b₀ :: suite) pos']) (SP X pins D) X.xe s₃) X.xe s₂) X.xe s₁) fun u s' x => ?_).run [] s σ H D (I.toTry _) h) (fun f s1 q => ?_) fun _ _ z => z)
    · refine fell_of I.ok hs hf hfr x fun a σ' H' B y cls d h3 eu F w => ?_
      subst eu
      obtain ⟨b, hb1, yes, no⟩ := w
      obtain ⟨oe, _, he, hz, fd⟩ := F.fly.there
      have ap := F.apart hs hf
      have S3 := F.here.suite he fd F.new ap.1 ap.2
      let tO : Obj := { cls := .type "tuple", data := .seq [Value.ref C1, .ref C2, .ref C3].toArray }
      have k4 : ∀ b o, h3.get? b = some o → (h3.push tO).get? b = some o := fun b o e => Heap.get?_push_of_some _ e
      have F4 := F.move (t := s'.toks) (flyZ_kept F.fly k4) (Heap.UpToSlots.of_keeps k4)
      have ty : PySem.W.Looks (model X.prog X.w) h3 (typeOf (.ref a)) cls := fun _ _ _ _ kp q => wpAny_typeOf_ref (kp _ _ he) (hz.1.symm ▸ q)
      have found := PySem.W.exm_tup3 (M := model X.prog X.w) (h := h3.push tO) (tp := h3.objs.size) F4.here.kIn (ty.keeps k4) (Heap.get?_push_size _ rfl) hb1
      -- the test's value: a new tuple of the three classes
      have names : ∀ {Q E : Value → Shared → Prop}, Q (.ref h3.objs.size) { s' with heap := h3.push tO } → wpAny (model X.prog X.w) (X.A.mark (some (.ref a))) (eval (.Tuple [.Name x1 p1, .Name x2 p2, .Name x3 p3] kk tp) X.env) Q E { s' with heap := h3 } := fun {Q E} q => by
        refine wpAny_Tuple_spliced ?_
        show wpAny _ _ (spliced ((false, eval (.Name x1 p1) X.env) :: backTo tp (starEach [.Name x2 p2, .Name x3 p3] X.env))) _ _ _
        refine Calls.spliced_cons (ld_glob (X := X.suite a ((a, oe) :: (X.pn ++ pins))) S3 g1 m1 ?_ d1)
        show wpAny _ _ (spliced ((false, eval (.Name x2 p2) X.env) :: backTo tp (starEach [.Name x3 p3] X.env))) _ _ _
        refine Calls.spliced_cons (ld_glob (X := X.suite a ((a, oe) :: (X.pn ++ pins))) S3 g2 m2 ?_ d2)
        show wpAny _ _ (spliced ((false, eval (.Name x3 p3) X.env) :: backTo tp (starEach [] X.env))) _ _ _
        refine Calls.spliced_cons (ld_glob (X := X.suite a ((a, oe) :: (X.pn ++ pins))) S3 g3 m3 ?_ d3)
        exact Calls.spliced_nil ⟨by rw [sizeLine_eq]; simp, q⟩
      refine wpAny_handleBy_cons (codeAny_handlers_test (names (found.here ?_))) (fun z => nomatch z)
      cases b with
      | true =>
        obtain ⟨C, rfl, caught⟩ := yes rfl
        refine codeAny_handlers_suite_as (HandSPX.lands_againZ F4.fly fun h5 fl5 u5 => ?_)
        have F5 := F4.move (t := s'.toks) fl5 u5
        refine store_ok (X := X.suite a (X.pn ++ pins)) (v := .ref a) (F5.suite hs hf hex) hN hi (.inl hln) rfl (fun s6 S6 => ?_) (.inr hln)
        exact wpAny_mono ((hsu a (X.pn ++ pins)).run [] s6 _ _ (goneD i D) S6 (caught a F.new)) (fun _ _ q => sp_suite I.ok hN hi hln q) fun _ _ z => z.elim
      | false =>
        refine wpAny_handleBy_nil ?_
        obtain ⟨_, _, _, oe, vs, T, _, _, g0, _, g2', g3', _⟩ := id F4.fly
        have out := F4.on (A := X.A) (Q := SP X pins D) hf tk (no rfl)
        unfold PySem.passOn
        refine wpAny_bind (wpAny_field g0 g2' g3' ?_)
        rw [if_neg (by simp)]
        first
          | exact wpAny_bind (wpAny_pure (wpAny_bind out))
          | exact wpAny_bind out
    · have q' := sp_try I.ok q
      cases f with
      | next => exact wpAny_execs_nil q'
      | brk => exact q'
      | cont => exact q'
      | ret u => exact q'
end
end RL
end
section
set_option maxRecDepth 100000
set_option maxHeartbeats 4000000
/-! try: .. / except (A, B, C) as e: .., as a reading -/
namespace RL
open PySem PySem.Spec L2
open PyProof.Rows hiding St
variable [Lams]
/-- k: how many names; i: e's place; kx: whether the class is caught -/
noncomputable def mTryT (k : Nat) (kx : Str → Option Bool) (i : Nat) (m ms : SS) : SS := fun s S => match m s S with
  | .exc c ns ws S1 => match kx c with
    | some true => (nox (ms ((List.replicate k none).set i (some (.exn c ns ws))) S1)).bind fun p S2 => .ok (p.1, p.2.set i none) S2
    | some false => .exc c ns ws S1
    | none => .bad
  | r => r
noncomputable def KxT (K : PySem.W.Frag) (mg : Str → Option Value) (kx : Str → Option Bool) (cs : List Value) : Prop := ∀ c C b, mg c = some (.ref C) → kx c = some b → PySem.W.exmAny K (.ref C) cs = some b
section
variable {K : PySem.W.Frag} {mg : Str → Option Value} {ρ : RT} {H : Hp} {E E' : EK}
theorem REnv.gone {s : Env'} {σ : L2.St} (h : REnv K mg ρ H E s σ) (i : Nat) : REnv K mg ρ H E (s.set i none) (σ.set i none) := by
  refine ⟨h.ce, by rw [List.length_set, List.length_set]; exact h.len, fun j u hj => ?_⟩
  by_cases hij : i = j
  · subst hij
    by_cases hi : i < s.length
    · rw [List.getElem?_set_self hi] at hj; cases hj
    · rw [List.getElem?_eq_none (by rw [List.length_set]; omega)] at hj; cases hj
  · rw [List.getElem?_set_ne hij] at hj
    obtain ⟨v, h1, h2⟩ := h.look j u hj
    exact ⟨v, by rw [List.getElem?_set_ne hij]; exact h1, h2⟩
theorem REnv.toE {s : Env'} {σ : L2.St} (h : REnv K mg ρ H E s σ) (e : E'.ce = E.ce) : REnv K mg ρ H E' s σ := ⟨by rw [e]; exact h.ce, h.len, h.look⟩
end
section
variable {X : Cx} {E : EK} {x1 x2 x3 n : Str} {C1 C2 C3 : Addr} {k : Nat} {body suite : List Stmt} {b₀ : Stmt} {p1 p2 p3 tp pos pos' : Pos} {kk : Nat} {m ms : SS} {kx : Str → Option Bool}
theorem takes_blank {W : WX} (tk : Takes X W) : Takes X (fun c d _ H => W c d (List.replicate X.N.length none) H) := fun u s' ⟨a, B, sI, pins, σ, H, cls, d, e, I, nb, up, sky, na, os, ag, w⟩ =>
  tk u s' ⟨a, B, sI, pins, List.replicate X.N.length none, H, cls, d, e, I.weak (by rw [List.length_replicate]; exact I.len.symm) (fun i v h => by
    rw [List.getElem?_replicate] at h
    split at h <;> cases h), nb, up, sky, na, os, ag, w⟩
theorem psm_tryT (i : Nat) (hs : X.stack = X.env :: X.outer) (hf : X.env.frame = some X.env.locals) (hex : X.ex = []) (hN : X.N.Nodup) (tk : Takes X (fun c d _ H => E c d H)) (m1 : X.mg x1 = some (.ref C1)) (m2 : X.mg x2 = some (.ref C2)) (m3 : X.mg x3 = some (.ref C3)) (hkx : KxT X.K X.mg kx [.ref C1, .ref C2, .ref C3])
    (hb : ∀ (E' : EK) (pn : List (Addr × Obj)) (xe : Value → Shared → Prop), E'.ce = E.ce → Takes (X.tr pn xe) (fun c d _ H => E' c d H) → PSsM (X.tr pn xe) E' body m)
    (hsu : ∀ (a : Addr) (pn : List (Addr × Obj)), PSsM (X.suite a pn) ⟨EN.e, E.ce⟩ (b₀ :: suite) ms)
    (hk : X.N.length = k := by rfl) (hi : X.N[i]? = some n := by rfl) (hln : X.env.kindOf n = some .local := by rfl) (g1 : Gl X x1 := by rfl) (g2 : Gl X x2 := by rfl) (g3 : Gl X x3 := by rfl)
    (d1 : (x1 == ("__debug__" : Str)) = false := by decide +kernel) (d2 : (x2 == ("__debug__" : Str)) = false := by decide +kernel) (d3 : (x3 == ("__debug__" : Str)) = false := by decide +kernel) :
    PSM X E (.Try body [.ExceptHandler (some (.Tuple [.Name x1 p1, .Name x2 p2, .Name x3 p3] kk tp)) (some n) (b₀ :: suite) pos'] [] [] pos) (mTryT k kx i m ms) := by
  subst hk
  refine ps_imp (ps_tryT (ts := tS X ⟨EN.e, E.ce⟩ ms) (tb := fun W => tS X ⟨fun c d H => W c d (List.replicate X.N.length none) H, E.ce⟩ m) hs hf hex hN hi hln tk g1 m1 g2 m2 g3 m3 d1 d2 d3 (fun W pn xe tkW => hb ⟨fun c d H => W c d (List.replicate X.N.length none) H, E.ce⟩ pn xe rfl (takes_blank (X := X.tr pn xe) tkW)) (fun a pn => hsu a pn)) fun D σ H ⟨ρ, s, S, rep, env, o⟩ => ?_
  refine ⟨ρ, s, S, rep, env.toE rfl, ?_⟩
  unfold mTryT at o
  cases e : m s S with
  | bad => rw [e] at o; exact o.elim
  | ok p S1 =>
    obtain ⟨fl, s1⟩ := p
    rw [e] at o
    cases fl with
    | nx => exact fun ρ' H' σ' x rep' env' => o ρ' H' σ' x rep' (env'.toE rfl)
    | rt w => exact o
    | bk => exact fun ρ' H' σ' x rep' env' => o ρ' H' σ' x rep' (env'.toE rfl)
    | ct => exact fun ρ' H' σ' x rep' env' => o ρ' H' σ' x rep' (env'.toE rfl)
  | exc c ns ws S1 =>
    rw [e] at o
    dsimp only at o
    intro ρ' H' C d vs ex rep' hC hd hl rs
    cases ek : kx c with
    | none => rw [ek] at o; exact o.elim
    | some b =>
      rw [ek] at o
      refine ⟨b, hkx c C b hC ek, fun hb => ⟨C, rfl, fun a na => ?_⟩, fun hb => ?_⟩
      · subst hb
        dsimp only at o
        obtain ⟨e1, rep1⟩ := rep'.tree na (exw a C (some d))
        refine ⟨ρ', (List.replicate X.N.length none).set i (some (.exn c ns ws)), S1, rep1, ⟨fun y c q => ?_, by simp, fun j u hj => ?_⟩, ?_⟩
        · rw [ex.ce]; exact env.ce y c q
        · by_cases hij : i = j
          · subst hij
            by_cases hi' : i < (List.replicate X.N.length (none : Option W)).length
            · rw [List.getElem?_set_self hi'] at hj
              cases hj
              rw [List.length_replicate] at hi'
              exact ⟨.ref a, by rw [List.getElem?_set_self (by rw [List.length_replicate]; exact hi')], .exn hC (fx_new rep' na _) (hd.ext e1) hl (rs.ext e1)⟩
            · rw [List.getElem?_eq_none (by rw [List.length_set]; omega)] at hj; cases hj
          · rw [List.getElem?_set_ne hij, List.getElem?_replicate] at hj
            split at hj <;> cases hj
        · cases er : ms ((List.replicate X.N.length none).set i (some (.exn c ns ws))) S1 with
          | bad => rw [er] at o; exact o.elim
          | exc c2 ns2 ws2 S2 => rw [er] at o; exact o.elim
          | ok p S2 =>
            obtain ⟨fl, s2⟩ := p
            rw [er] at o
            have o := OutS.ext (ex.trans e1) o
            cases fl with
            | nx => exact fun ρ2 H2 σ2 x2 rep2 env2 => o ρ2 H2 _ x2 rep2 (REnv.toE (E := ⟨EN.e, E.ce⟩) (E' := E) (env2.gone i) rfl)
            | rt w => exact o
            | bk => exact fun ρ2 H2 σ2 x2 rep2 env2 => o ρ2 H2 _ x2 rep2 (REnv.toE (E := ⟨EN.e, E.ce⟩) (E' := E) (env2.gone i) rfl)
            | ct => exact fun ρ2 H2 σ2 x2 rep2 env2 => o ρ2 H2 _ x2 rep2 (REnv.toE (E := ⟨EN.e, E.ce⟩) (E' := E) (env2.gone i) rfl)
      · subst hb
        exact o ρ' H' C d vs ex rep' hC hd hl rs
end
/-! ### defs called in an except suite -/
open L2H in
/-- what such a def promises: it raises nothing -/
noncomputable def FnC (P : Program) (w : World) (K : PySem.W.Frag) (mg : Str → Option Value) (base : Heap) (k : Nat) (f : Addr) (fd : FuncData) (ps : List Str) (n : Nat) (g : Fn) : Prop :=
  ∀ (A : Around) (outer : List Env) (s : Shared) (H : Hp) (args : Args) (us : List Value) (vs : List V) (Q : VK), RoomH k A → Env0 P w K mg base A outer s H → BindsTo s fd args (ps.zip us) → Vals vs us → vs.length = ps.length → spM K mg n g vs H Q EN →
    codeAny (model P w) A (.call (.ref f) args) (CR (L2.CX P w) outer P w H s Q EN) s
noncomputable def FnCE (P : Program) (w : World) (K : PySem.W.Frag) (mg : Str → Option Value) (base : Heap) (k : Nat) (x : Str) (st : Stmt) (ps : List Str) (g : Fn) : Prop :=
  ∃ f fd, mg x = some (.ref f) ∧ Fun K x x st f fd ∧ Binds K fd ps [] ∧ FnC P w K mg base k f fd ps ps.length g
section
open L2H
variable {P : Program} {w : World} {K : PySem.W.Frag} {mg : Str → Option Value} {base : Heap}
theorem fn_c {x qual : Str} {st : Stmt} {f : Addr} {fd : FuncData} {N ps : List Str} {k : Nat} {m : SS} (F : Fun K x qual st f fd) (Sc : FnScope N ps (defScope st))
    (hb : ∀ (cdv : Value) (A : Around) (outer : List Env) (s : Shared) (H : Hp) (p : Addr × Obj), RoomH k (A.deeper (envOfC qual (defScope st) s.heap.objs.size f cdv)) → PSsM (cxH (L2.CX P w) P w K mg base N qual (defScope st) f cdv A outer s H EN.e p) EN (defBody st) m) :
    FnC P w K mg base (k + 1) f fd ps ps.length (runB N.length m) := by
  obtain ⟨oc, od, kV, doc, pm, an, cdv, ct, osl, rfl, lk, hcd⟩ := F.ex
  intro A outer s H args us vs Q hr e0 hbd r hl hsp
  have KX : K.In s.heap := e0.mod.kin.keeps fun b o e => (e0.bs b o e).1
  have lim : s.heap.NoLimit := e0.mod.nolimit.keeps fun b o e => (e0.bs b o e).1
  -- some object of the ground
  obtain ⟨p, hpin⟩ : ∃ p, PinOk outer H s p := by
    obtain ⟨o, es, ep, e, hd, _⟩ := e0.mod.glob
    refine ⟨(mainGlobals, o), (e0.bs _ _ e).1, (e0.bs _ _ e).2, fun hm => ?_, fun v z => ?_⟩
    · have := (e0.funs.mem hm).1
      rw [e] at this; cases this
    · have z : o.data = .cell v := z
      rw [hd] at z; cases z
  have hkind : ∀ y ∈ ps.zip us, (defScope st).names.lookup y.1 = some .local ∨ ((defScope st).names.lookup y.1 = some .cell ∧ ((cellsFrom (s.heap.objs.size + 1) (defScope st).names []).lookup y.1).isSome = true) := fun ⟨n, v⟩ hy => by
    rcases Sc.par n (List.of_mem_zip hy).1 with q | q
    · exact .inl q
    · exact .inr ⟨q, PySem.W.cellsFrom_some _ _ _ (.inl q)⟩
  refine codeAny_call_function hr.depth (KX _ _ lk) rfl Sc.co Sc.gen rfl (PySem.W.codeRec_of KX hcd) (hbd _ _ _ _ ?_)
  refine wpAny_newFunctionEnv_cells Sc.kind hkind fun env he s1 x => ?_
  subst he
  refine ⟨lim.keeps x.toInCall.keep, codeAny_func ?_⟩
  have I : Inv (cxH (L2.CX P w) P w K mg base N qual (defScope st) f cdv A outer s H EN.e p) [] (L2.start N vs) H s1 := inv_startH Sc hpin e0 hl r x
  obtain ⟨ρ, S, ws, rep, rs, hn, o⟩ := hsp
  refine wpAny_mono ((hb cdv A outer s H p (hr.deeper _)).run [] s1 (L2.start N vs) H { nx := fun _ H' => Q .non H', rt := Q } I ⟨ρ, startW N.length ws, S, rep, env_start rs (fun _ _ q => nomatch q), ?_⟩) (fun fl s' hs => ?_) fun e s' hs => hs
  · unfold runB at o
    cases e : m (startW N.length ws) S with
    | ok p S1 =>
      obtain ⟨fl, s1⟩ := p
      rw [e] at o
      cases fl with
      | nx => exact fun ρ' H' σ' x rep' env' => o ρ' H' .non x rep' .non
      | rt u => exact o
      | bk => exact o.elim
      | ct => exact o.elim
    | exc c ns ws' S1 => rw [e] at o; exact o
    | bad => rw [e] at o; exact o
  · have fin : ∀ {σ' : L2.St} {H' : Hp} {v : V} {u : Value}, Inv (cxH (L2.CX P w) P w K mg base N qual (defScope st) f cdv A outer s H EN.e p) [] σ' H' s' → RelV v u → Q v H' → CE outer P w H s Q u s' :=
      fun {σ' H' v u} J rv q => ⟨v, H', J.os, J.bare, J.base, J.hok, rv, q⟩
    cases fl with
    | ret u =>
      obtain ⟨v, σ', H', J, rv, q⟩ := hs
      exact fin J rv q
    | next =>
      obtain ⟨σ', H', J, q⟩ := hs
      exact fin (v := V.non) (u := Value.none) J rfl q
    | brk =>
      obtain ⟨_, _, _, q⟩ := hs
      exact False.elim q
    | cont =>
      obtain ⟨_, _, _, q⟩ := hs
      exact False.elim q
theorem fn_cE {x : Str} {st : Stmt} {N ps : List Str} {k : Nat} {m : SS} (T : FTx K mg x st ps) (Sc : FnScope N ps (defScope st))
    (hb : ∀ (f : Addr) (cdv : Value) (A : Around) (outer : List Env) (s : Shared) (H : Hp) (p : Addr × Obj), RoomH k (A.deeper (envOfC x (defScope st) s.heap.objs.size f cdv)) → PSsM (cxH (L2.CX P w) P w K mg base N x (defScope st) f cdv A outer s H EN.e p) EN (defBody st) m) :
    FnCE P w K mg base (k + 1) x st ps (runB N.length m) := by
  obtain ⟨f, fd, F, hm, hb'⟩ := T
  exact ⟨f, fd, hm, F, hb', fn_c F Sc (hb f)⟩
variable {X : Cx} {E : EK} {pos : Pos} {a : Expr} {es : List Expr} {mr : SM (List W)} {k k' n : Nat} {g : Fn} {x : Str} {p : Pos} {st : Stmt} {ps : List Str}
theorem pm_callX [hl : Len mr n] (F : FnCE X.prog X.w X.K X.mg X.base k x st ps g) (hr : RoomH k' X.A) (hk : k ≤ k') (ha : PAM X E (a :: es) mr) (hn : n = ps.length := by rfl)
    (hg : Gl X x := by rfl) (hdb : (x == ("__debug__" : Str)) = false := by decide +kernel) (he : starEach (a :: es) X.env = (false, eval a X.env) :: starEach es X.env := by rfl) (hpl : (backTo pos (starEach es X.env)).any (·.1) = false := by rfl) : PM X E (.Call (.Name x p) (a :: es) [] pos) (mAp (fun ws S => nox (g ws S)) mr) := by
  obtain ⟨f, fd, h1, h2, h3, h4⟩ := F
  subst hn
  refine ⟨fun pins s σ H Q I h => ?_⟩
  obtain ⟨ρ, sW, S, rep, env, o⟩ := h
  refine wpAny_Call_Name_kw (ld_glob I hg h1 ?_ hdb)
  have hq : tA X E mr σ H (fun vs H1 => ∃ ρ1 ws S1, RepS X.K X.mg ρ1 H1 S1 ∧ RWs X.K X.mg ρ1 H1 ws vs ∧ ws.length = ps.length ∧ Out X.K X.mg (RW X.K X.mg) E ρ1 H1 (nox (g ws S1)) Q) := by
    refine ⟨ρ, sW, S, rep, env, ?_⟩
    unfold mAp at o
    cases e : mr sW S with
    | ok ws S1 =>
      rw [e] at o
      exact fun ρ1 H1 vs x rep1 r => ⟨ρ1, ws, S1, rep1, r, hl.len _ _ _ _ e, Out.ext x o⟩
    | exc c ns ws S1 => rw [e] at o; exact o
    | bad => rw [e] at o; exact o
  refine PySem.W.callWith_K (h₀ := X.base) I.ok.mod.kin h2.kp (thn (ha.run pos pins s σ H _ I hq) fun us s1 ⟨vs, H1, I1, r, ρ1, ws, S1, rep1, rs, hlen, o1⟩ => ⟨I1.kIn, ?_⟩) he hpl
  have hb := h3 s1 us I1.kIn (by rw [List.append_nil, ← r.length, ← hlen]; exact rs.length.symm)
  rw [List.append_nil] at hb
  have hsp : spM X.K X.mg ps.length g vs H1 Q EN := ⟨ρ1, S1, ws, rep1, rs, hlen, by
    cases e : g ws S1 with
    | ok w S2 => rw [e] at o1; exact o1
    | exc c ns us S2 => rw [e] at o1; exact o1.elim
    | bad => rw [e] at o1; exact o1.elim⟩
  refine wpAny_call (codeAny_mono (h4 X.A X.stack s1 H1 ⟨us, []⟩ us vs Q ⟨by have := hr.dp; omega, by have := hr.un; omega⟩ I1.env0 hb r (by rw [← rs.length]; exact hlen) hsp) fun rr s2 hq => ?_)
  cases rr with
  | error e =>
    obtain ⟨_, _, _, _, _, _, _, _, _, _, _, _, z⟩ := (show L2.CX X.prog X.w X.stack H1 s1 (fun _ _ _ => False) e s2 from hq)
    exact z.elim
  | ok fl =>
    cases fl with
    | ret u => exact I1.after hq
    | next => exact False.elim hq
    | brk => exact False.elim hq
    | cont => exact False.elim hq
end
end RL
end
section
set_option maxRecDepth 100000
set_option maxHeartbeats 4000000
/-! sets made of lists -/
namespace RS
open PySem PySem.Spec PyProof.Rows L2
section
variable {P : Program} {w : World} {A : Around} {E : Value → Shared → Prop} {s : Shared}
noncomputable abbrev emp (w : World) : Obj := { cls := .type "set", dict := none, data := .set #[] 0 (.fresh 0 0 (!w.params.followText "set-order")) }
noncomputable abbrev lit (l : Addr) : Obj := { cls := .type "list_iterator", data := .fields #[.ref l, .int 0 0] }
end
end RS
end
section
set_option maxRecDepth 100000
set_option maxHeartbeats 4000000
/-! orders, sorted lists -/
namespace OrdX
structure Tot {α : Type} (lt : α → α → Bool) : Prop where
  irr : ∀ a, lt a a = false
  tr : ∀ a b c, lt a b = true → lt b c = true → lt a c = true
  tri : ∀ a b, a ≠ b → lt a b = true ∨ lt b a = true
section
variable {α : Type} {lt : α → α → Bool}
theorem Tot.asym (o : Tot lt) {a b : α} (h : lt a b = true) : lt b a = false := by
  cases e : lt b a with
  | false => rfl
  | true => have := o.tr _ _ _ h e; rw [o.irr] at this; cases this
noncomputable def insS (lt : α → α → Bool) (x : α) : List α → List α
  | [] => [x]
  | y :: r => if lt y x = true then y :: insS lt x r else x :: y :: r
noncomputable def srt (lt : α → α → Bool) : List α → List α
  | [] => []
  | x :: r => insS lt x (srt lt r)
noncomputable def insU (lt : α → α → Bool) (x : α) : List α → List α
  | [] => [x]
  | y :: r => if lt y x = true then y :: insU lt x r else if lt x y = true then x :: y :: r else y :: r
noncomputable def usrt (lt : α → α → Bool) : List α → List α
  | [] => []
  | x :: r => insU lt x (usrt lt r)
theorem insS_perm (x : α) : ∀ l : List α, (insS lt x l).Perm (x :: l)
  | [] => List.Perm.refl _
  | y :: r => by
    unfold insS
    split
    · exact ((insS_perm x r).cons y).trans (List.Perm.swap x y r)
    · exact List.Perm.refl _
theorem srt_perm : ∀ l : List α, (srt lt l).Perm l
  | [] => List.Perm.refl _
  | x :: r => (insS_perm x _).trans ((srt_perm r).cons x)
theorem insS_pw (o : Tot lt) (x : α) : ∀ l : List α, l.Pairwise (fun a b => lt b a = false) → (insS lt x l).Pairwise fun a b => lt b a = false
  | [], _ => List.pairwise_singleton _ _
  | y :: r, h => by
    rw [List.pairwise_cons] at h
    unfold insS
    split
    · rename_i hy
      refine List.pairwise_cons.mpr ⟨fun z hz => ?_, insS_pw o x r h.2⟩
      rcases List.mem_cons.mp ((insS_perm x r).mem_iff.mp hz) with rfl | hz
      · exact o.asym hy
      · exact h.1 z hz
    · rename_i hy
      have hy : lt y x = false := by simpa using hy
      refine List.pairwise_cons.mpr ⟨fun z hz => ?_, List.pairwise_cons.mpr h⟩
      rcases List.mem_cons.mp hz with rfl | hz
      · exact hy
      · cases e : lt z x with
        | false => rfl
        | true =>
          have h1 := h.1 z hz
          by_cases hxy : y = x
          · subst hxy
            rw [h1] at e; cases e
          · rcases o.tri y x hxy with k | k
            · rw [hy] at k; cases k
            · have := o.tr _ _ _ e k
              rw [h1] at this; cases this
theorem srt_pw (o : Tot lt) : ∀ l : List α, (srt lt l).Pairwise fun a b => lt b a = false
  | [] => List.Pairwise.nil
  | x :: r => insS_pw o x _ (srt_pw o r)
/-- two sorted lists of the same things are the same -/
theorem sorted_eq (o : Tot lt) : ∀ {l m : List α}, l.Perm m → l.Pairwise (fun a b => lt b a = false) → m.Pairwise (fun a b => lt b a = false) → l = m
  | [], m, p, _, _ => by rw [List.nil_perm.mp p]
  | x :: l, [], p, _, _ => by have := p.length_eq; simp at this
  | x :: l, y :: m, p, h1, h2 => by
    rw [List.pairwise_cons] at h1 h2
    have e : x = y := by
      by_cases e : ∃ _ : x = y, True
      · exact e.1
      · have e : x ≠ y := fun z => e ⟨z, trivial⟩
        have a1 : x ∈ m := by
          rcases List.mem_cons.mp (p.mem_iff.mp List.mem_cons_self) with z | z
          · exact absurd z e
          · exact z
        have a2 : y ∈ l := by
          rcases List.mem_cons.mp (p.symm.mem_iff.mp List.mem_cons_self) with z | z
          · exact absurd z.symm e
          · exact z
        have b1 := h2.1 x a1
        have b2 := h1.1 y a2
        rcases o.tri x y e with z | z
        · rw [b1] at z; cases z
        · rw [b2] at z; cases z
    subst e
    rw [sorted_eq o (List.Perm.cons_inv p) h1.2 h2.2]
theorem srt_eq (o : Tot lt) {l m : List α} (p : m.Perm l) (h : m.Pairwise fun a b => lt b a = false) : m = srt lt l := sorted_eq o (p.trans (srt_perm l).symm) h (srt_pw o l)
theorem mem_insU (o : Tot lt) (x z : α) : ∀ l : List α, z ∈ insU lt x l ↔ z = x ∨ z ∈ l
  | [] => by simp [insU]
  | y :: r => by
    unfold insU
    split
    · simp only [List.mem_cons, mem_insU o x z r]
      exact ⟨fun h => h.elim (fun h => .inr (.inl h)) fun h => h.elim .inl fun h => .inr (.inr h), fun h => h.elim (fun h => .inr (.inl h)) fun h => h.elim .inl fun h => .inr (.inr h)⟩
    · rename_i h1
      split
      · simp only [List.mem_cons]
      · rename_i h2
        have : x = y := by
          by_cases e : ∃ _ : x = y, True
          · exact e.1
          · rcases o.tri x y (fun z => e ⟨z, trivial⟩) with k | k
            · exact absurd k h2
            · exact absurd k h1
        subst this
        simp only [List.mem_cons]
        exact ⟨.inr, fun h => h.elim .inl id⟩
theorem mem_usrt (o : Tot lt) (z : α) : ∀ l : List α, z ∈ usrt lt l ↔ z ∈ l
  | [] => Iff.rfl
  | x :: r => by rw [usrt, mem_insU o, mem_usrt o z r, List.mem_cons]
theorem insU_pw (o : Tot lt) (x : α) : ∀ l : List α, l.Pairwise (fun a b => lt a b = true) → (insU lt x l).Pairwise fun a b => lt a b = true
  | [], _ => List.pairwise_singleton _ _
  | y :: r, h => by
    have h0 := h
    rw [List.pairwise_cons] at h
    unfold insU
    split
    · rename_i hy
      refine List.pairwise_cons.mpr ⟨fun z hz => ?_, insU_pw o x r h.2⟩
      rcases (mem_insU o x z r).mp hz with rfl | hz
      · exact hy
      · exact h.1 z hz
    · split
      · rename_i hy
        refine List.pairwise_cons.mpr ⟨fun z hz => ?_, h0⟩
        rcases List.mem_cons.mp hz with rfl | hz
        · exact hy
        · exact o.tr _ _ _ hy (h.1 z hz)
      · exact h0
theorem usrt_pw (o : Tot lt) : ∀ l : List α, (usrt lt l).Pairwise fun a b => lt a b = true
  | [] => List.Pairwise.nil
  | x :: r => insU_pw o x _ (usrt_pw o r)
theorem strict_eq (o : Tot lt) : ∀ {l m : List α}, (∀ x, x ∈ l ↔ x ∈ m) → l.Pairwise (fun a b => lt a b = true) → m.Pairwise (fun a b => lt a b = true) → l = m
  | [], [], _, _, _ => rfl
  | [], y :: m, p, _, _ => by have := (p y).mpr List.mem_cons_self; cases this
  | x :: l, [], p, _, _ => by have := (p x).mp List.mem_cons_self; cases this
  | x :: l, y :: m, p, h1, h2 => by
    rw [List.pairwise_cons] at h1 h2
    have e : x = y := by
      by_cases e : ∃ _ : x = y, True
      · exact e.1
      · have e : x ≠ y := fun z => e ⟨z, trivial⟩
        have a1 : x ∈ m := by
          rcases List.mem_cons.mp ((p x).mp List.mem_cons_self) with z | z
          · exact absurd z e
          · exact z
        have a2 : y ∈ l := by
          rcases List.mem_cons.mp ((p y).mpr List.mem_cons_self) with z | z
          · exact absurd z.symm e
          · exact z
        have b := o.asym (h2.1 x a1)
        rw [h1.1 y a2] at b; cases b
    subst e
    refine congrArg (x :: ·) (strict_eq o (fun z => ⟨fun hz => ?_, fun hz => ?_⟩) h1.2 h2.2)
    · rcases List.mem_cons.mp ((p z).mp (List.mem_cons_of_mem _ hz)) with rfl | k
      · have := h1.1 z hz; rw [o.irr] at this; cases this
      · exact k
    · rcases List.mem_cons.mp ((p z).mpr (List.mem_cons_of_mem _ hz)) with rfl | k
      · have := h2.1 z hz; rw [o.irr] at this; cases this
      · exact k
theorem usrt_eq (o : Tot lt) {l m : List α} (p : ∀ x, x ∈ m ↔ x ∈ l) (h : m.Pairwise fun a b => lt a b = true) : m = usrt lt l := strict_eq o (fun x => (p x).trans (mem_usrt o x l).symm) h (usrt_pw o l)
end
end OrdX
end
section
set_option maxRecDepth 100000
set_option maxHeartbeats 4000000
namespace RL
open PySem PySem.Spec L2 OrdX
open PyProof.Rows hiding St
variable [Lams]
/-! ### set(xs) of a list of ints -/
/-! ### lists of ints, of tuples of ints, of texts -/
noncomputable def intsW : List W → Option (List Int)
  | [] => some []
  | .int i :: r => (intsW r).map (i :: ·)
  | _ => none
section
variable {K : PySem.W.Frag} {mg : Str → Option Value} {ρ ρ' : RT} {H H' : Hp}
theorem intsW_of : ∀ {ws : List W} {ns : List Int}, intsW ws = some ns → ws = ns.map W.int
  | [], ns, h => by cases (Option.some.inj h : [] = ns); rfl
  | w :: r, ns, h => by
    cases w with
    | int i =>
      cases e : intsW r with
      | none => simp [intsW, e] at h
      | some ms =>
        simp [intsW, e] at h
        subst h
        rw [intsW_of e] <;> rfl
    | _ => cases h
theorem rws_ints : ∀ {ns : List Int} {vs : List V}, RWs K mg ρ H (ns.map W.int) vs → vs = ns.map V.int
  | [], _, .nil => rfl
  | n :: r, _, .cons (.int _) t => by rw [rws_ints t] <;> rfl
theorem strs_rws : ∀ ns : List Str, RWs K mg ρ H (ns.map W.str) (ns.map V.str)
  | [] => .nil
  | n :: r => .cons (.str n) (strs_rws r)
end
/-! ### list.append, list.insert -/
end RL
end
section
set_option maxRecDepth 100000
set_option maxHeartbeats 4000000
namespace RL
open PySem PySem.Spec L2 OrdX
open PyProof.Rows hiding St
variable [Lams]
/-! ### dicts -/
noncomputable def keyW : W → Option Key
  | .str x => some (.inr x)
  | .int i => some (.inl i)
  | _ => none
noncomputable def wKey : Key → W
  | .inl i => .int i
  | .inr x => .str x
noncomputable abbrev KW := List (Key × W)
noncomputable def valW (kws : KW) (k : Key) : Option W := (kws.find? fun kv => decide (kv.1 = k)).map (·.2)
noncomputable def putW (kws : KW) (k : Key) (w : W) : KW := if (kws.any fun kv => decide (kv.1 = k)) = true then kws.map (fun kv => if kv.1 = k then (kv.1, w) else kv) else kws ++ [(k, w)]
noncomputable def mergeW (kws more : KW) : KW := more.foldl (fun acc kv => putW acc kv.1 kv.2) kws
noncomputable def dicO (kws : KW) : Ob := .dic (kws.map (·.1)) (kws.map (·.2))
noncomputable def dicT (kws : KW) : W := .dic (kws.map (·.1)) (kws.map (·.2))
/-- the dict of the store at place l -/
noncomputable def dicL (S : Store) (l : Nat) : Option KW := match S[l]? with
  | some (.dic ks ws) => if ks.length = ws.length then some (ks.zip ws) else none
  | _ => none
/-- the dict that a value is -/
noncomputable def dicAt (S : Store) : W → Option KW
  | .dic ks ws => if ks.length = ws.length then some (ks.zip ws) else none
  | .ref l => dicL S l
  | _ => none
section
variable (K : PySem.W.Frag) (mg : Str → Option Value) (ρ : RT) (H : Hp)
inductive RKW : KW → List (Key × V) → Prop where
  | nil : RKW [] []
  | cons {k : Key} {w : W} {v : V} {kws : KW} {kvs : List (Key × V)} (r : RW K mg ρ H w v) (t : RKW kws kvs) : RKW ((k, w) :: kws) ((k, v) :: kvs)
end
section
variable {K : PySem.W.Frag} {mg : Str → Option Value} {ρ ρ' : RT} {H H' : Hp} {S : Store}
theorem zip_unzip {α β : Type} : ∀ l : List (α × β), (l.map (·.1)).zip (l.map (·.2)) = l
  | [] => rfl
  | p :: l => by rw [List.map_cons, List.map_cons, List.zip_cons_cons, zip_unzip l]
theorem rkw_zip : ∀ {ks : List Key} {ws : List W} {vs : List V}, RWs K mg ρ H ws vs → RKW K mg ρ H (ks.zip ws) (ks.zip vs)
  | [], _, _, _ => by simp; exact .nil
  | k :: ks, _, _, .nil => by simp; exact .nil
  | k :: ks, _, _, .cons r t => .cons r (rkw_zip t)
theorem RKW.rws : ∀ {kws : KW} {kvs : List (Key × V)}, RKW K mg ρ H kws kvs → RWs K mg ρ H (kws.map (·.2)) (kvs.map (·.2))
  | _, _, .nil => .nil
  | _, _, .cons r t => .cons r t.rws
theorem RKW.keys : ∀ {kws : KW} {kvs : List (Key × V)}, RKW K mg ρ H kws kvs → kws.map (·.1) = kvs.map (·.1)
  | _, _, .nil => rfl
  | _, _, .cons r t => by rw [List.map_cons, List.map_cons, t.keys]
theorem RKW.len {kws : KW} {kvs : List (Key × V)} (r : RKW K mg ρ H kws kvs) : kws.length = kvs.length := by
  have := congrArg List.length r.keys
  simpa using this
theorem RKW.ext (e : Ext ρ H ρ' H') : ∀ {kws : KW} {kvs : List (Key × V)}, RKW K mg ρ H kws kvs → RKW K mg ρ' H' kws kvs
  | _, _, .nil => .nil
  | _, _, .cons r t => .cons (r.ext e) (t.ext e)
theorem RKW.map (f : ∀ {w : W} {v : V}, RW K mg ρ H w v → RW K mg ρ' H' w v) : ∀ {kws : KW} {kvs : List (Key × V)}, RKW K mg ρ H kws kvs → RKW K mg ρ' H' kws kvs
  | _, _, .nil => .nil
  | _, _, .cons r t => .cons (f r) (t.map f)
theorem RKW.val {k : Key} : ∀ {kws : KW} {kvs : List (Key × V)}, RKW K mg ρ H kws kvs → (valW kws k = none ∧ valV kvs k = none) ∨ ∃ w v, valW kws k = some w ∧ valV kvs k = some v ∧ RW K mg ρ H w v
  | _, _, .nil => .inl ⟨rfl, rfl⟩
  | _, _, .cons (k := j) (w := w) (v := v) (kws := kws) (kvs := kvs) r t => by
    by_cases h : j = k
    · exact .inr ⟨w, v, by simp [valW, h], by simp [valV, h], r⟩
    · have e1 : valW ((j, w) :: kws) k = valW kws k := by simp [valW, List.find?_cons, h]
      have e2 : valV ((j, v) :: kvs) k = valV kvs k := by simp [valV, List.find?_cons, h]
      rw [e1, e2]
      exact t.val
theorem RKW.any {k : Key} : ∀ {kws : KW} {kvs : List (Key × V)}, RKW K mg ρ H kws kvs → (kws.any fun kv => decide (kv.1 = k)) = kvs.any fun kv => decide (kv.1 = k)
  | _, _, .nil => rfl
  | _, _, .cons r t => by rw [List.any_cons, List.any_cons, t.any]
theorem RKW.snoc {k : Key} {w : W} {v : V} (q : RW K mg ρ H w v) : ∀ {kws : KW} {kvs : List (Key × V)}, RKW K mg ρ H kws kvs → RKW K mg ρ H (kws ++ [(k, w)]) (kvs ++ [(k, v)])
  | _, _, .nil => .cons q .nil
  | _, _, .cons r t => .cons r (t.snoc q)
theorem RKW.repl {k : Key} {w : W} {v : V} (q : RW K mg ρ H w v) : ∀ {kws : KW} {kvs : List (Key × V)}, RKW K mg ρ H kws kvs → RKW K mg ρ H (kws.map fun kv => if kv.1 = k then (kv.1, w) else kv) (kvs.map fun kv => if kv.1 = k then (kv.1, v) else kv)
  | _, _, .nil => .nil
  | _, _, .cons (k := j) r t => by
    rw [List.map_cons, List.map_cons]
    by_cases h : j = k
    · simp only [h, if_true]; exact .cons q (by simpa using t.repl q)
    · simp only [h, if_false]; exact .cons r (by simpa using t.repl q)
theorem RKW.put {k : Key} {w : W} {v : V} {kws : KW} {kvs : List (Key × V)} (r : RKW K mg ρ H kws kvs) (q : RW K mg ρ H w v) : RKW K mg ρ H (putW kws k w) (putK kvs k v) := by
  unfold putW putK
  rw [r.any]
  split
  · exact r.repl q
  · exact r.snoc q
theorem RKW.merge : ∀ {more : KW} {mvs : List (Key × V)} {kws : KW} {kvs : List (Key × V)}, RKW K mg ρ H more mvs → RKW K mg ρ H kws kvs → RKW K mg ρ H (mergeW kws more) (mergeK kvs mvs)
  | _, _, _, _, .nil, h => h
  | _, _, _, _, .cons (k := k) (w := w) (v := v) (kws := more) (kvs := mvs) r t, h => by
    have := RKW.merge t (h.put (k := k) r)
    exact this
theorem keyW_of {w : W} {x : V} {k : Key} (r : RW K mg ρ H w x) (h : keyW w = some k) : x = kV k := by
  cases w with
  | str y => cases h; cases r; rfl
  | int i => cases h; cases r; rfl
  | _ => cases h
theorem wKey_rw (k : Key) : RW K mg ρ H (wKey k) (kV k) := by
  cases k with
  | inl i => exact .int i
  | inr x => exact .str x
theorem dicAt_of {w : W} {x : V} {kws : KW} (rep : RepS K mg ρ H S) (r : RW K mg ρ H w x) (h : dicAt S w = some kws) : ∃ a kvs, x = .ref a ∧ Rd H a (.dK kvs) ∧ RKW K mg ρ H kws kvs := by
  cases w with
  | dic ks ws =>
    have h : (if ks.length = ws.length then some (ks.zip ws) else none) = some kws := h
    split at h
    · cases h
      cases r with | dic hf hl hr => exact ⟨_, _, rfl, .inr (hf.imp fun _ z => z.1), rkw_zip hr⟩
    · cases h
  | ref l =>
    cases r with
    | @ref l p hl =>
      have h : dicL S l = some kws := h
      unfold dicL at h
      cases e : S[l]? with
      | none => rw [e] at h; cases h
      | some ob =>
        rw [e] at h
        cases ob with
        | dic ks ws =>
          have h : (if ks.length = ws.length then some (ks.zip ws) else none) = some kws := h
          split at h
          · cases h
            obtain ⟨a, h1, h2⟩ := rep.ob l _ e
            rw [hl] at h1; cases h1
            cases h2 with | dic h3 h4 h5 => exact ⟨_, _, rfl, .inl h3, rkw_zip h5⟩
          · cases h
        | _ => cases h
  | _ => cases h
theorem _root_.L2.DGet.kR {H : Hp} {a : Addr} {kvs : List (Key × V)} {k : Key} (e : Rd H a (.dK kvs)) : DGet H a (kV k) (valV kvs k) := .inl ⟨kvs, k, e, rfl, rfl⟩
/-- a dict of the store: it is never locked -/
theorem dicR_of {l : Nat} {x : V} {kws : KW} (rep : RepS K mg ρ H S) (r : RW K mg ρ H (.ref l) x) (h : dicAt S (.ref l) = some kws) : ∃ a kvs, x = .ref a ∧ H a = some (.dK kvs) ∧ RKW K mg ρ H kws kvs := by
  cases r with
  | @ref l p hl =>
    have h : dicL S l = some kws := h
    unfold dicL at h
    cases e : S[l]? with
    | none => rw [e] at h; cases h
    | some ob =>
      rw [e] at h
      cases ob with
      | dic ks ws =>
        have h : (if ks.length = ws.length then some (ks.zip ws) else none) = some kws := h
        split at h
        · cases h
          obtain ⟨a, h1, h2⟩ := rep.ob l _ e
          rw [hl] at h1; cases h1
          cases h2 with | dic h3 h4 h5 => exact ⟨_, _, rfl, h3, rkw_zip h5⟩
        · cases h
      | _ => cases h
theorem ro_dic {a : Addr} {kws : KW} {kvs : List (Key × V)} (h : H a = some (.dK kvs)) (r : RKW K mg ρ H kws kvs) : RO K mg ρ H a (dicO kws) := by
  refine .dic (ks := kws.map (·.1)) (vs := kvs.map (·.2)) ?_ ?_ r.rws
  · rw [r.keys, zip_unzip]; exact h
  · rw [List.length_map, List.length_map]; exact r.len
theorem rw_dic {a : Addr} {kws : KW} {kvs : List (Key × V)} {od : Obj} (h : Fx ρ H a (.frz od (.dK kvs))) (r : RKW K mg ρ H kws kvs) : RW K mg ρ H (dicT kws) (.ref a) := by
  refine .dic (ks := kws.map (·.1)) (vs := kvs.map (·.2)) ?_ ?_ r.rws
  · rw [r.keys, zip_unzip]; exact ⟨_, h⟩
  · rw [List.length_map, List.length_map]; exact r.len
end
noncomputable def gDGet (d k : W) (S : Store) : Res W := match dicAt S d, keyW k with
  | some kws, some k => match valW kws k with
    | some w => .ok w S
    | none => .bad
  | _, _ => .bad
/-- d.get(k, x) -/
noncomputable def gDGet2 (d k x : W) (S : Store) : Res W := match dicAt S d, keyW k with
  | some kws, some k => .ok ((valW kws k).getD x) S
  | _, _ => .bad
noncomputable def mDGet2 (md mk mx : SM W) : SM W := fun s S => (md s S).bind fun d S1 => match dicAt S1 d with
  | some _ => (mk s S1).bind fun k S2 => (mx s S2).bind fun x S3 => gDGet2 d k x S3
  | none => .bad
noncomputable def gDIn (neg : Bool) (k d : W) (S : Store) : Res W := match dicAt S d, keyW k with
  | some kws, some k => .ok (.bl (xorB neg (valW kws k).isSome)) S
  | _, _ => .bad
noncomputable def gDPut (d k v : W) (S : Store) : Res Unit := match d, keyW k with
  | .ref l, some k => match dicL S l with
    | some kws => if kws.length < lim then .ok () (S.set l (dicO (putW kws k v))) else .bad
    | none => .bad
  | _, _ => .bad
noncomputable def mDPut (md mk mv : SM W) : SS := fun s S => (mv s S).bind fun v S1 => (md s S1).bind fun d S2 => (mk s S2).bind fun k S3 => (gDPut d k v S3).bind fun _ S4 => .ok (.nx, s) S4
/-- {} that will be changed -/
noncomputable def mDNewR : SM W := fun _ S => .ok (.ref S.length) (S ++ [dicO []])
section
variable {X : Cx} {E : EK} {pos pos' apos cpos : Pos} {o i e f value : Expr} {md mk mv mx : SM W}
theorem pm_dget (hu : X.A.units + 1 < cLine) (ho : PM X E o md) (hi : PM X E i mk) (hs : NoSl i := by exact fun _ _ => rfl) : PM X E (.Subscript o i pos) (mBin gDGet md mk) :=
  pe_imp (pe_dget hu ho hi hs) fun σ H Q h => tX.bind h fun ρ1 H1 w x s S1 rep env r out => ⟨ρ1, s, S1, rep, env, Out.bind out fun ρ2 H2 w2 x2 S2 e2 rep2 r2 o2 => by
    unfold gDGet at o2
    cases e1 : dicAt S2 w with
    | none => rw [e1] at o2; exact o2.elim
    | some kws =>
      cases e3 : keyW w2 with
      | none => rw [e1, e3] at o2; exact o2.elim
      | some k =>
        rw [e1, e3] at o2
        obtain ⟨a, kvs, rfl, ha, rk⟩ := dicAt_of rep2 (r.ext e2) e1
        have := keyW_of r2 e3
        subst this
        rcases rk.val (k := k) with ⟨h1, _⟩ | ⟨w', v', h1, h2, h3⟩
        · simp only [h1] at o2; exact o2.elim
        · simp only [h1] at o2
          exact ⟨a, v', rfl, by have := DGet.kR (k := k) ha; rw [h2] at this; exact this, Out.here o2 rep2 h3⟩⟩
theorem pm_dget2 (hu : X.A.units + 1 < cLine) (ho : PM X E o md) (he : PM X E e mk) (hf : PM X E f mx) (m : M2 X o "get" apos e f cpos := by exact ⟨rfl, rfl, rfl, rfl⟩) : PM X E (.Call (.Attribute o "get" apos) [e, f] [] cpos) (mDGet2 md mk mx) :=
  pe_imp (pe_dget2 hu ho he hf m) fun σ H Q h => tX.bind h fun ρ1 H1 w x s S1 rep env r out => by
    cases e1 : dicAt S1 w with
    | none => rw [e1] at out; exact out.elim
    | some kws0 =>
      rw [e1] at out
      obtain ⟨a, kvs0, rfl, ha0, _⟩ := dicAt_of rep r e1
      refine ⟨a, rfl, .inl ⟨kvs0, ha0⟩, ρ1, s, S1, rep, env, Out.bind out fun ρ2 H2 w2 x2 S2 e2 rep2 r2 o2 => ⟨ρ2, s, S2, rep2, env.ext e2, Out.bind o2 fun ρ3 H3 w3 x3 S3 e3 rep3 r3 o3 => ?_⟩⟩
      unfold gDGet2 at o3
      cases e4 : dicAt S3 w with
      | none => rw [e4] at o3; exact o3.elim
      | some kws =>
        cases e5 : keyW w2 with
        | none => rw [e4, e5] at o3; exact o3.elim
        | some k =>
          rw [e4, e5] at o3
          obtain ⟨a', kvs, ea, ha, rk⟩ := dicAt_of rep3 ((r.ext e2).ext e3) e4
          cases ea
          have := keyW_of r2 e5
          subst this
          rcases rk.val (k := k) with ⟨h1, h2⟩ | ⟨w', v', h1, h2, h3⟩
          · simp only [h1, Option.getD_none] at o3
            exact ⟨none, by have := DGet.kR (k := k) ha; rw [h2] at this; exact this, Out.here o3 rep3 r3⟩
          · simp only [h1, Option.getD_some] at o3
            exact ⟨some v', by have := DGet.kR (k := k) ha; rw [h2] at this; exact this, Out.here o3 rep3 h3⟩
theorem pm_dnewR : PM X E (.Dict [] [] pos) mDNewR := pe_imp pe_dnewK fun σ H Q ⟨ρ, s, S, rep, env, out⟩ p hp => out_new (u := dicO []) out rep hp fun e => ro_dic upd_same .nil
end
/-! ### a dict that is made stays as it is -/
theorem pe_frz {X : Cx} {e : Expr} {t : TE} (h : PE X e t) : PE X e (fun σ H Q => t σ H fun v H1 => ∃ d u, v = .ref d ∧ H1 d = some u ∧ Mut (some u) ∧ ∀ o, Q v (upd H1 d (.frz o u))) :=
  ⟨fun pins s σ H Q I q => thn (h.run pins s σ H _ I q) fun v s1 ⟨x, H1, I1, r, d, u, ex, hd, mu, k⟩ => by
    obtain ⟨od, I2⟩ := I1.lock hd mu
    exact ⟨x, _, I2, r, k od⟩⟩
/-! ### d.update(e), list(d), dict(pairs) -/
noncomputable def rDUpd : V → List V → Hp → VK → Prop := fun x xs H Q => ∃ (a b : Addr) (kvs mvs : List (Key × V)), x = .ref a ∧ xs = [.ref b] ∧ a ≠ b ∧ H a = some (.dK kvs) ∧ Rd H b (.dK mvs) ∧ kvs.length + mvs.length ≤ sizeLine ∧ Q .non (upd H a (.dK (mergeK kvs mvs)))
theorem mt_dupd {X : Cx} : MtR X "dict.update" rDUpd := by
  intro pins s σ H x xs v us Q I rx rxs ⟨a, b, kvs, mvs, ex, exs, hne, ha, hb, hz, q⟩
  subst ex exs
  cases rx
  rw [Vals.ref1 rxs]
  obtain ⟨z, lo, vs, rel, dd⟩ := dk_of I.hok ha
  obtain ⟨z2, lo2, vs2, rel2, dd2⟩ := dk_rd I.hok hb
  refine call_meetsIn PySem.F.slot_dict_update dd.typeIs PySem.F.entry_dict_update (PySem.F.args_dict_update_2 _ _) (meets_dict_update (mixKind X.prog X.w) a b hne lo2)
    ⟨vs, vs2, dd, dd2, by rw [← rel.length, ← rel2.length]; exact hz, fun h' hm _ hs => ?_⟩
  have he : ∃ q, h'.get? a = some q := let ⟨q, _, _, hq, _⟩ := hm; ⟨q, hq⟩
  have hlen : (mergeK kvs mvs).length ≤ sizeLine := Nat.le_trans (length_mergeK mvs kvs) hz
  exact ⟨.non, _, d_write (t' := s.toks) I (by rw [ha]; exact True.intro) hs he (dk_new hlen lo (KV.merge rel2 rel) hm), rfl, q⟩
noncomputable def isRefTo (l : Nat) : W → Bool
  | .ref k => k == l
  | _ => false
noncomputable def gDUpd (o : W) (ws : List W) (S : Store) : Res W := match o, ws with
  | .ref l, [w] => match dicL S l, dicAt S w with
    | some kws, some more => if isRefTo l w = false ∧ kws.length + more.length ≤ lim then .ok .non (S.set l (dicO (mergeW kws more))) else .bad
    | _, _ => .bad
  | _, _ => .bad
/-- a dict of the store -/
noncomputable def dicM (S : Store) : W → Option KW
  | .ref l => dicAt S (.ref l)
  | _ => none
/-- it stands as a dict before the arguments are read -/
noncomputable def gMetD (g : W → List W → Store → Res W) (mo : SM W) (mr : SM (List W)) : SM W := fun s S => (mo s S).bind fun o S1 => match dicM S1 o with
  | some _ => (mr s S1).bind fun ws S2 => g o ws S2
  | none => .bad
section
variable {K : PySem.W.Frag} {mg : Str → Option Value} {ρ : RT} {H : Hp} {S : Store}
/-- a dict of the store and another one stand apart -/
theorem dic_apart {l : Nat} {w : W} {p b : Addr} {kws : KW} (rep : RepS K mg ρ H S) (hl : ρ.r[l]? = some p) (r : RW K mg ρ H w (.ref b)) (h : dicAt S w = some kws) (hn : isRefTo l w = false) : p ≠ b := by
  intro e
  subst e
  cases w with
  | dic ks ws => cases r with | dic hf _ _ => exact hf.elim fun _ z => z.2.1 (List.mem_of_getElem? hl)
  | ref k =>
    cases r with
    | ref hk =>
      obtain ⟨i1, e1⟩ := List.getElem?_eq_some_iff.mp hl
      obtain ⟨i2, e2⟩ := List.getElem?_eq_some_iff.mp hk
      have := (List.getElem_inj rep.nd).mp (e1.trans e2.symm)
      subst this
      simp [isRefTo] at hn
  | _ => cases h
end
section
variable {X : Cx} {E : EK} {o e : Expr} {es : List Expr} {mo : SM W} {mr : SM (List W)} {apos cpos : Pos}
theorem pm_dupd (ho : PM X E o mo) (ha : PAM X E (e :: es) mr)
    (hbase : attributeBase o "update" X.env (eval o X.env) = eval o X.env := by rfl)
    (hfew : ((backTo cpos (starEach (e :: es) X.env)).all (fun x => !x.1) && (backToKw cpos (keywordEach [] X.env)).all (fun x => x.1.isSome)
      && decide ((e :: es).length + ([] : List Keyword).length + (if ([] : List Keyword).isEmpty then 0 else 1) < 30)) = true := by rfl)
    (hline : (apos.endLine == cpos.line) = true := by rfl) (hs : starEach (e :: es) X.env = (false, eval e X.env) :: starEach es X.env := by rfl) (hplain : (backTo cpos (starEach es X.env)).any (·.1) = false := by rfl) :
    PM X E (.Call (.Attribute o "update" apos) (e :: es) [] cpos) (gMetD gDUpd mo mr) := by
  refine pe_imp (pe_bm PySem.F.plainAttrs_dict PySem.F.slot_dict_update PySem.F.type_dict_update mt_dupd ho ha hbase hfew hline hs hplain) fun σ H Q h => tX.bind h fun ρ1 H1 w x s S1 rep env rx out => ?_
  cases e1 : dicM S1 w with
  | none => rw [e1] at out; exact out.elim
  | some kws0 =>
    rw [e1] at out
    have hd0 : ∃ a kvs0, x = .ref a ∧ H1 a = some (.dK kvs0) := by
      cases w with
      | ref l => obtain ⟨a, kvs0, q1, q2, _⟩ := dicR_of rep rx e1; exact ⟨a, kvs0, q1, q2⟩
      | _ => cases e1
    obtain ⟨a, kvs0, rfl, ha0⟩ := hd0
    refine ⟨.inr (.inr (.inl ⟨rfl, .inl ⟨kvs0, ha0⟩⟩)), ρ1, s, S1, rep, env, Out.bind out fun ρ2 H2 ws xs S2 e2 rep2 r2 o2 => ?_⟩
    have rx2 := rx.ext e2
    cases w with
    | ref l =>
      match ws, r2, o2 with
      | [], _, o2 => exact o2.elim
      | _ :: _ :: _, _, o2 => exact o2.elim
      | [u], r2, o2 =>
        obtain ⟨y, rfl, ru⟩ := r2.one
        dsimp only [gDUpd] at o2
        cases e4 : dicL S2 l with
        | none => simp only [e4] at o2; exact o2.elim
        | some kws =>
          cases e5 : dicAt S2 u with
          | none => simp only [e4, e5] at o2; exact o2.elim
          | some more =>
            simp only [e4, e5] at o2
            split at o2
            · rename_i hz
              obtain ⟨a', kvs, ea, ha, rk⟩ := dicR_of rep2 rx2 e4
              cases ea
              obtain ⟨b, mvs, rfl, hb, rm⟩ := dicAt_of rep2 ru e5
              cases rx2 with
              | ref hl =>
                have hne := dic_apart rep2 hl ru e5 hz.1
                refine ⟨a, b, kvs, mvs, rfl, rfl, hne, ha, hb, by rw [← rk.len, ← rm.len]; exact lim_line hz.2, ?_⟩
                have ma : a ∈ ρ2.r := List.mem_of_getElem? hl
                have ex : Ext ρ2 H2 ρ2 (upd H2 a (.dK (mergeK kvs mvs))) := ⟨fun _ _ h => h, fun _ h => h, fun _ h => .inl h, fun b u hb n => by rw [upd_ne fun z : b = a => n (by rw [z]; exact ma)]; exact hb, fun _ h => .inl h, fun b _ hb => by
                  by_cases hz : b = a
                  · subst hz; rw [upd_same]; simp
                  · rw [upd_ne hz]; exact hb, rfl⟩
                obtain ⟨e6, rep6⟩ := rep2.wr hl (o := .dK (mergeK kvs mvs)) (u := dicO (mergeW kws more)) (ro_dic upd_same ((RKW.merge rm rk).ext ex))
                exact o2 ρ2 _ _ e6 rep6 .non
            · exact o2.elim
    | _ => exact o2.elim
/-- list(d), list(xs), list(t) -/
noncomputable def gListD (w : W) (S : Store) : Res W := match seqA S w with
  | some ws => .ok (.lst ws) S
  | none => match dicAt S w with
    | some kws => .ok (.lst (kws.map fun kv => wKey kv.1)) S
    | none => .bad
theorem keys_rws {K : PySem.W.Frag} {mg : Str → Option Value} {ρ : RT} {H : Hp} : ∀ {kws : KW} {kvs : List (Key × V)}, RKW K mg ρ H kws kvs → RWs K mg ρ H (kws.map fun kv => wKey kv.1) (kvs.map fun kv => kV kv.1)
  | _, _, .nil => .nil
  | _, _, .cons (k := k) r t => .cons (wKey_rw k) (keys_rws t)
theorem cm_listD (hc : X.calm = true) : CallM X E (.type "list") (g1 gListD) := cm1 fun pins s σ H x us Q ρ S w I r rep rw o => by
  unfold gListD at o
  cases e : seqA S w with
  | some ws =>
    rw [e] at o
    obtain ⟨a, vs, rfl, hl, hr, _⟩ := seqA_of rep rw e
    exact call_list_of pins s σ H _ us Q I r ⟨a, vs, rfl, hl, fun p hp => out_lst o rep hp hr⟩
  | none =>
    rw [e] at o
    cases e1 : dicAt S w with
    | none => rw [e1] at o; exact o.elim
    | some kws =>
      rw [e1] at o
      obtain ⟨a, kvs, rfl, ha, rk⟩ := dicAt_of rep rw e1
      exact call_listD hc pins s σ H _ us Q I r ⟨a, kvs, rfl, ha, fun p hp => out_lst o rep hp (keys_rws rk)⟩
end
/-! ### displays -/
noncomputable abbrev RPr (K : PySem.W.Frag) (mg : Str → Option Value) : Rl (List (V × V)) (List (W × W)) := fun ρ H ws vs => RWs K mg ρ H (ws.map (·.1)) (vs.map (·.1)) ∧ RWs K mg ρ H (ws.map (·.2)) (vs.map (·.2))
noncomputable def PPsM (X : Cx) (E : EK) (pos : Pos) (keys : List (Option Expr)) (values : List Expr) (m : SM (List (W × W))) : Prop := ∃ trs, PPs X pos keys values trs ∧ ∀ σ H Q, tX X.K X.mg (RPr X.K X.mg) E m σ H Q → tPairs trs σ H Q
noncomputable def mPNil : SM (List (W × W)) := fun _ S => .ok [] S
noncomputable def mPCons (mk mv : SM W) (mr : SM (List (W × W))) : SM (List (W × W)) := fun s S => (mk s S).bind fun k S1 => (mv s S1).bind fun v S2 => (mr s S2).bind fun r S3 => .ok ((k, v) :: r) S3
noncomputable def kwsOf : List (W × W) → Option KW
  | [] => some []
  | (k, v) :: r => match keyW k, kwsOf r with
    | some k, some ks => some ((k, v) :: ks)
    | _, _ => none
noncomputable def gDisp (ps : List (W × W)) (S : Store) : Res W := match kwsOf ps with
  | some kws => if kws.length ≤ 15 then .ok (dicT (mergeW [] kws)) S else .bad
  | none => .bad
noncomputable def mDisp (m : SM (List (W × W))) : SM W := fun s S => (m s S).bind gDisp
section
variable {X : Cx} {E : EK} {pos : Pos} {k v : Expr} {keys : List (Option Expr)} {values : List Expr} {mk mv : SM W} {mr : SM (List (W × W))}
theorem ppm_nil : PPsM X E pos [] [] mPNil := ⟨[], pps_nil, fun σ H Q ⟨ρ, s, S, rep, env, o⟩ => Out.here o rep ⟨.nil, .nil⟩⟩
theorem ppm_cons (hk : PM X E k mk) (hv : PM X E v mv) (hr : PPsM X E pos keys values mr) : PPsM X E pos (some k :: keys) (v :: values) (mPCons mk mv mr) := by
  obtain ⟨trs, h1, h2⟩ := hr
  refine ⟨_, pps_cons hk hv h1, fun σ H Q h => ?_⟩
  show tE X E mk σ H fun _ _ => _
  refine tX.bind (R' := RPr X.K X.mg) h fun ρ1 H1 w x s S1 rep env r out => ?_
  refine ⟨ρ1, s, S1, rep, env, Out.bind out fun ρ2 H2 w2 x2 S2 e2 rep2 r2 o2 => ?_⟩
  refine h2 _ _ _ ⟨ρ2, s, S2, rep2, env.ext e2, Out.bind o2 fun ρ3 H3 ws vs S3 e3 rep3 r3 o3 => ?_⟩
  exact Out.here o3 rep3 ⟨.cons ((r.ext e2).ext e3) r3.1, .cons (r2.ext e3) r3.2⟩
theorem kwsOf_of {K : PySem.W.Frag} {mg : Str → Option Value} {ρ : RT} {H : Hp} : ∀ {ps : List (W × W)} {vs : List (V × V)} {kws : KW}, RWs K mg ρ H (ps.map (·.1)) (vs.map (·.1)) → RWs K mg ρ H (ps.map (·.2)) (vs.map (·.2)) → kwsOf ps = some kws → ∃ kvs : List (Key × V), vs = kvs.map (fun kv => (kV kv.1, kv.2)) ∧ RKW K mg ρ H kws kvs
  | [], [], kws, _, _, h => by cases (Option.some.inj h : [] = kws); exact ⟨[], rfl, .nil⟩
  | [], _ :: _, _, r, _, _ => by simp at r; cases r
  | _ :: _, [], _, r, _, _ => by simp at r; cases r
  | (k, w) :: ps, (y, v) :: vs, kws, r1, r2, h => by
    rw [List.map_cons, List.map_cons] at r1 r2
    cases r1 with
    | cons a1 t1 =>
      cases r2 with
      | cons a2 t2 =>
        unfold kwsOf at h
        cases e1 : keyW k with
        | none => rw [e1] at h; cases h
        | some k' =>
          cases e2 : kwsOf ps with
          | none => rw [e1, e2] at h; cases h
          | some ks =>
            rw [e1, e2] at h
            cases Option.some.inj h
            obtain ⟨kvs, rfl, rk⟩ := kwsOf_of t1 t2 e2
            have : y = kV k' := keyW_of a1 e1
            subst this
            exact ⟨(k', v) :: kvs, rfl, .cons a2 rk⟩
/-- {k: v, ..} -/
theorem pm_disp (h : PPsM X E pos keys values mr) (hall : keys.all (·.isSome) = true := by rfl) (hl : keys.length = values.length := by rfl) (h0 : keys ≠ [] := by exact fun z => by cases z) (h15 : keys.length ≤ 15 := by decide) : PM X E (.Dict keys values pos) (mDisp mr) := by
  obtain ⟨trs, h1, h2⟩ := h
  refine pe_imp (pe_frz (pe_disp h1 hall hl h0 h15)) fun σ H Q ⟨ρ, s, S, rep, env, out⟩ p hp => ?_
  obtain ⟨e0, rep0⟩ := rep.more (o := .dK []) hp
  have np := rep.fresh hp
  refine h2 _ _ _ ⟨⟨ρ.r, p :: ρ.t, ρ.ce⟩, s, S, rep0, env.ext e0, ?_⟩
  unfold mDisp at out
  cases em : mr s S with
  | bad => rw [em] at out; exact out.elim
  | exc c ns ws S1 => rw [em] at out; exact ExcOut.ext e0 out
  | ok ps S1 =>
    rw [em] at out
    intro ρ1 H1 vs e1 rep1 r1
    have out : Out X.K X.mg (RW X.K X.mg) E ρ H (gDisp ps S1) Q := out
    unfold gDisp at out
    cases ek : kwsOf ps with
    | none => rw [ek] at out; exact out.elim
    | some kws =>
      rw [ek] at out
      dsimp only at out
      split at out
      · rename_i hz
        obtain ⟨kvs, rfl, rk⟩ := kwsOf_of r1.1 r1.2 ek
        have hd : H1 p = some (.dK []) := e1.keep p _ upd_same np.1
        have hpt : p ∈ ρ1.t := e1.sub p List.mem_cons_self
        have hsub : ∀ b, b ∈ ρ.t → b ∈ ρ1.t := fun b m => e1.sub b (List.mem_cons_of_mem _ m)
        have nr : p ∉ ρ1.r := (rep1.tk p hpt).2
        refine ⟨hd, kvs, rfl, by rw [← rk.len]; exact hz, ?_⟩
        have e01 := e0.trans e1
        refine ⟨p, _, rfl, upd_same, True.intro, fun od => ?_⟩
        rw [upd_upd]
        have rep2 : RepS X.K X.mg ⟨ρ1.r, ρ.t, ρ1.ce⟩ (upd H1 p (.frz od (.dK (mergeK [] kvs)))) S1 := (rep1.flux hpt).less hsub
        have rk2 : RKW X.K X.mg ⟨ρ1.r, ρ.t, ρ1.ce⟩ (upd H1 p (.frz od (.dK (mergeK [] kvs)))) kws kvs := rk.map fun r => (r.flux hpt).less hsub
        exact out ⟨ρ1.r, ρ.t, ρ1.ce⟩ _ (.ref p) ⟨e01.pre, fun _ h => h, fun _ h => .inl h, fun b o hb n => by rw [upd_ne (ne_of_none hb hp)]; exact e01.keep b o hb n, e01.new, fun b m hb => by
          by_cases z : b = p
          · subst z; rw [upd_same]; simp
          · rw [upd_ne z]; exact e01.still b m hb, e01.ce⟩ rep2 (rw_dic ⟨upd_same, nr, np.2⟩ (RKW.merge rk2 .nil))
      · exact out.elim
end
end RL
end
section
set_option maxRecDepth 100000
set_option maxHeartbeats 4000000
namespace OrdX
open PySem PySem.Spec PyProof.Rows
noncomputable def ltN : List Nat → List Nat → Bool
  | [], [] => false
  | [], _ :: _ => true
  | _ :: _, [] => false
  | a :: r, b :: q => decide (a < b) || (decide (a = b) && ltN r q)
theorem totN : Tot ltN where
  irr := fun a => by induction a with
    | nil => rfl
    | cons x r ih => simp [ltN, ih]
  tr := fun a b c h1 h2 => by
    induction a generalizing b c with
    | nil => cases b with
      | nil => cases h1
      | cons y q => cases c with
        | nil => cases h2
        | cons z s => rfl
    | cons x r ih => cases b with
      | nil => cases h1
      | cons y q => cases c with
        | nil => cases h2
        | cons z s =>
          simp only [ltN, Bool.or_eq_true, decide_eq_true_eq, Bool.and_eq_true] at h1 h2 ⊢
          rcases h1 with h1 | ⟨h1, h1'⟩ <;> rcases h2 with h2 | ⟨h2, h2'⟩
          · left; omega
          · left; omega
          · left; omega
          · right; exact ⟨by omega, ih q s h1' h2'⟩
  tri := fun a b h => by
    induction a generalizing b with
    | nil => cases b with
      | nil => exact absurd rfl h
      | cons y q => exact .inl rfl
    | cons x r ih => cases b with
      | nil => exact .inr rfl
      | cons y q =>
        simp only [ltN, Bool.or_eq_true, decide_eq_true_eq, Bool.and_eq_true]
        rcases Nat.lt_trichotomy x y with k | k | k
        · exact .inl (.inl k)
        · subst k
          have : r ≠ q := fun e => h (by rw [e])
          rcases ih q this with k | k
          · exact .inl (.inr ⟨rfl, k⟩)
          · exact .inr (.inr ⟨rfl, k⟩)
        · exact .inr (.inl k)
theorem ltCps_eq : ∀ a b : List Nat, ltCps a b = ltN a b
  | [], [] => rfl
  | [], _ :: _ => rfl
  | _ :: _, [] => rfl
  | a :: r, b :: q => by
    have ih := ltCps_eq r q
    simp only [ltCps, ltN, ih]
    try (by_cases h1 : a < b <;> by_cases h2 : a = b <;> simp [h1, h2] <;> omega)
noncomputable def ltS (x y : Str) : Bool := ltN x.cps.toList y.cps.toList
theorem totS : Tot ltS where
  irr := fun a => totN.irr _
  tr := fun a b c => totN.tr _ _ _
  tri := fun a b h => totN.tri _ _ fun e => h (by
    cases a; cases b
    simp only [Str.mk.injEq] at h ⊢
    exact (Array.toList_inj.mp e))
theorem sortedS_pw : ∀ {l : List Str}, sortedS l = true → l.Pairwise fun a b => ltS b a = false
  | [], _ => .nil
  | x :: r, h => by
    have h : risingS x r = true := h
    have go : ∀ (r : List Str) (x : Str), risingS x r = true → (x :: r).Pairwise fun a b => ltS b a = false := by
      intro r
      induction r with
      | nil => intro x _; exact List.pairwise_singleton _ _
      | cons y r ih =>
        intro x h
        simp only [risingS, Bool.and_eq_true, Bool.not_eq_true', ltCps_eq] at h
        have h1 : ltS y x = false := h.1
        have pw := ih y h.2
        refine List.pairwise_cons.mpr ⟨fun z hz => ?_, pw⟩
        rcases List.mem_cons.mp hz with rfl | hz
        · exact h1
        · have h2 := (List.pairwise_cons.mp pw).1 z hz
          cases e : ltS z x with
          | false => rfl
          | true =>
            by_cases hxy : y = x
            · subst hxy; rw [h2] at e; cases e
            · rcases totS.tri y x hxy with k | k
              · rw [h1] at k; cases k
              · have := totS.tr _ _ _ e k; rw [h2] at this; cases this
    exact go r x h
end OrdX
namespace RL
open PySem PySem.Spec L2 OrdX
open PyProof.Rows hiding St
variable [Lams]
/-! ### sorted(xs) of texts, max, sum -/
/-- .. that will be changed -/
noncomputable def gSrtSR (w : W) (S : Store) : Res W := match (seqL S w).bind strsW with
  | some xs => if xs.length < 64 then .ok (.ref S.length) (S ++ [.lst ((srt ltS xs).map .str)]) else .bad
  | none => .bad
noncomputable def gMax (w : W) (S : Store) : Res W := match (seqL S w).bind intsW with
  | some (n :: r) => .ok (.int (r.foldl max n)) S
  | _ => .bad
noncomputable def gSum (w : W) (S : Store) : Res W := match (seqL S w).bind intsW with
  | some ns => .ok (.int ns.sum) S
  | none => .bad
theorem foldl_max_le : ∀ (r : List Int) (n : Int), n ≤ r.foldl max n ∧ ∀ y ∈ r, y ≤ r.foldl max n
  | [], n => ⟨Int.le_refl _, nofun⟩
  | x :: r, n => by
    obtain ⟨h1, h2⟩ := foldl_max_le r (max n x)
    rw [List.foldl_cons]
    refine ⟨by omega, fun y hy => ?_⟩
    rcases List.mem_cons.mp hy with rfl | hy
    · omega
    · exact h2 y hy
theorem foldl_max_mem : ∀ (r : List Int) (n : Int), r.foldl max n ∈ n :: r
  | [], n => List.mem_cons_self
  | x :: r, n => by
    rw [List.foldl_cons]
    rcases List.mem_cons.mp (foldl_max_mem r (max n x)) with h | h
    · rcases Int.le_total n x with z | z
      · rw [h, show max n x = x by omega]; simp
      · rw [h, show max n x = n by omega]; simp
    · exact List.mem_cons_of_mem _ (List.mem_cons_of_mem _ h)
section
variable {X : Cx} {E : EK}
theorem strsW_at {K : PySem.W.Frag} {mg : Str → Option Value} {ρ : RT} {H : Hp} {S : Store} {w : W} {x : V} {xs : List Str} (rep : RepS K mg ρ H S) (r : RW K mg ρ H w x) (h : (seqL S w).bind strsW = some xs) : ∃ a, x = .ref a ∧ SqL K H a (xs.map V.str) := by
  cases e : seqL S w with
  | none => rw [e] at h; cases h
  | some ws =>
    rw [e] at h
    obtain ⟨a, vs, rfl, hl, hr⟩ := seqL_of rep r e
    rw [strsW_of hr h] at hl
    exact ⟨a, rfl, hl⟩
theorem intsW_at {K : PySem.W.Frag} {mg : Str → Option Value} {ρ : RT} {H : Hp} {S : Store} {w : W} {x : V} {ns : List Int} (rep : RepS K mg ρ H S) (r : RW K mg ρ H w x) (h : (seqL S w).bind intsW = some ns) : ∃ a, x = .ref a ∧ SqL K H a (ns.map V.int) := by
  cases e : seqL S w with
  | none => rw [e] at h; cases h
  | some ws =>
    rw [e] at h
    obtain ⟨a, vs, rfl, hl, hr⟩ := seqL_of rep r e
    have := intsW_of (show intsW ws = some ns from h)
    subst this
    rw [rws_ints hr] at hl
    exact ⟨a, rfl, hl⟩
theorem cm_srtSR : CallM X E (.builtin "sorted") (g1 gSrtSR) := cm1 fun pins s σ H x us Q ρ S w I r rep rw' o => by
  unfold gSrtSR at o
  cases e : (seqL S w).bind strsW with
  | none => rw [e] at o; exact o.elim
  | some xs =>
    rw [e] at o
    dsimp only at o
    split at o
    · rename_i hz
      obtain ⟨a, rfl, hl⟩ := strsW_at rep rw' e
      refine cr_sortedS pins s σ H _ us Q I r ⟨a, xs, rfl, hl, hz, fun ys p pm hs hp => ?_⟩
      have eq : ys = srt ltS xs := srt_eq totS pm (sortedS_pw hs)
      subst eq
      exact out_new o rep hp fun e => .lst upd_same (strs_rws _)
    · exact o.elim
theorem cm_max (hc : X.calm = true) : CallM X E (.builtin "max") (g1 gMax) := cm1 fun pins s σ H x us Q ρ S w I r rep rw' o => by
  unfold gMax at o
  cases e : (seqL S w).bind intsW with
  | none => rw [e] at o; exact o.elim
  | some ns =>
    cases ns with
    | nil => rw [e] at o; exact o.elim
    | cons n q =>
      rw [e] at o
      obtain ⟨a, rfl, hl⟩ := intsW_at rep rw' e
      refine cr_max hc pins s σ H _ us Q I r ⟨a, n :: q, rfl, hl, Nat.succ_pos _, fun m h1 h2 => ?_⟩
      have eq : m = q.foldl max n := by
        have := h2 _ (foldl_max_mem q n)
        have h3 := foldl_max_le q n
        rcases List.mem_cons.mp h1 with rfl | h1
        · omega
        · have := h3.2 m h1; omega
      subst eq
      exact Out.here o rep (.int _)
theorem cm_sum (hc : X.calm = true) : CallM X E (.builtin "sum") (g1 gSum) := cm1 fun pins s σ H x us Q ρ S w I r rep rw' o => by
  unfold gSum at o
  cases e : (seqL S w).bind intsW with
  | none => rw [e] at o; exact o.elim
  | some ns =>
    rw [e] at o
    obtain ⟨a, rfl, hl⟩ := intsW_at rep rw' e
    exact cr_sum hc pins s σ H _ us Q I r ⟨a, ns, rfl, hl, Out.here o rep (.int _)⟩
end
/-! ### f-strings -/
noncomputable def mFmt (m : SM W) : SM W := fun s S => (m s S).bind fun w S1 => match w with
  | .str y => if y.length ≤ lim then .ok (.str y) S1 else .bad
  | _ => .bad
noncomputable def mJs : List (SM W) → Str → SM W
  | [], acc => fun _ S => .ok (.str acc) S
  | m :: ms, acc => fun s S => (m s S).bind fun w S1 => match w with
    | .str y => if (acc ++ y).length ≤ lim then mJs ms (acc ++ y) s S1 else .bad
    | _ => .bad
noncomputable def mJoined (ms : List (SM W)) : SM W := mJs ms Str.empty
inductive PJM (X : Cx) (E : EK) : List Expr → List (SM W) → Prop where
  | nil : PJM X E [] []
  | cons {e : Expr} {m : SM W} {es : List Expr} {ms : List (SM W)} (h : PM X E e m) (r : PJM X E es ms) : PJM X E (e :: es) (m :: ms)
section
variable {X : Cx} {E : EK} {pos : Pos} {e v1 v2 : Expr} {m : SM W} {ms : List (SM W)} {rest es : List Expr}
theorem pm_fmt (h : PM X E e m) : PM X E (.FormattedValue e (-1) none pos) (mFmt m) := pe_imp (pe_fmt h) fun σ H Q q => tX.bind q fun ρ1 H1 w x s S1 rep env r o => by
  cases w with
  | str y =>
    have o : Out X.K X.mg (RW X.K X.mg) E ρ1 H1 (if y.length ≤ lim then Res.ok (W.str y) S1 else Res.bad) Q := o
    split at o
    · rename_i hz
      cases r
      exact .inl ⟨y, rfl, lim_line hz, Out.here o rep (.str _)⟩
    · exact o.elim
  | _ => exact o.elim
theorem PJM.pj : ∀ {es : List Expr} {ms : List (SM W)}, PJM X E es ms → PJ X es (ms.map fun m => tE X E m)
  | _, _, .nil => .nil
  | _, _, .cons h r => .cons h r.pj
theorem js_of : ∀ (ms : List (SM W)) (acc : Str) (σ : L2.St) (H : Hp) (Q : VK), tE X E (mJs ms acc) σ H Q → tJs (ms.map fun m => tE X E m) acc σ H fun out H1 => Q (.str out) H1
  | [], acc, σ, H, Q, ⟨ρ, s, S, rep, env, o⟩ => Out.here o rep (.str _)
  | m :: ms, acc, σ, H, Q, h => tX.bind h fun ρ1 H1 w x s S1 rep env r o => by
    cases w with
    | str y =>
      have o : Out X.K X.mg (RW X.K X.mg) E ρ1 H1 (if (acc ++ y).length ≤ lim then mJs ms (acc ++ y) s S1 else Res.bad) Q := o
      split at o
      · rename_i hz
        cases r
        exact ⟨y, rfl, lim_line hz, js_of ms (acc ++ y) σ H1 Q ⟨ρ1, s, S1, rep, env, o⟩⟩
      · exact o.elim
    | _ => exact o.elim
theorem pm_joined (h : PJM X E (v1 :: v2 :: rest) ms) : PM X E (.JoinedStr (v1 :: v2 :: rest) pos) (mJoined ms) := pe_imp (pe_joined h.pj) fun σ H Q q => js_of ms Str.empty σ H Q q
theorem pm_joined1 (h : PM X E e m) : PM X E (.JoinedStr [e] pos) m := pe_joined1 h
/-! ### *e in an argument list or a display -/
noncomputable def mStar (m : SM W) (mr : SM (List W)) : SM (List W) := fun s S => (m s S).bind fun w S1 => match seqA S1 w with
  | some ws => (mr s S1).bind fun us S2 => .ok (ws ++ us) S2
  | none => .bad
theorem pam_star {p : Pos} {mr : SM (List W)} (h : PM X E e m) (hr : PAM X E es mr) (hs : starEach (.Starred e p :: es) X.env = (true, eval e X.env) :: starEach es X.env := by rfl) : PAM X E (.Starred e p :: es) (mStar m mr) :=
  pa_imp (StX.pa_star h hr hs) fun σ H Q q => tX.bind q fun ρ1 H1 w x s S1 rep env r o => by
    cases e1 : seqA S1 w with
    | none => rw [e1] at o; exact o.elim
    | some ws =>
      rw [e1] at o
      obtain ⟨a, vs, rfl, hl, hr, _⟩ := seqA_of rep r e1
      refine ⟨a, vs, rfl, hl.symm, ρ1, s, S1, rep, env, Out.bind o fun ρ2 H2 us xs S2 e2 rep2 r2 o2 => Out.here o2 rep2 ((hr.ext e2).append r2)⟩
end
/-! ### what is never reached -/
noncomputable def mNever : SS := fun _ _ => .bad
/-! ### a module's dict of texts, read -/
noncomputable def KDTab (K : PySem.W.Frag) (mg : Str → Option Value) (w : World) (x : Str) (tab : List (Str × Str)) : Prop := ∃ p, mg x = some (.ref p) ∧ ∀ k v, tab.lookup k = some v → KDct K w p k (.str v)
noncomputable def mCDict (tab : List (Str × Str)) (mi : SM W) : SM W := fun s S => (mi s S).bind fun k S1 => match k with
  | .str z => match tab.lookup z with
    | some v => .ok (.str v) S1
    | none => .bad
  | _ => .bad
section
variable {X : Cx} {E : EK} {pos p : Pos} {i : Expr} {mi : SM W} {x : Str} {tab : List (Str × Str)}
theorem pm_cdict (T : KDTab X.K X.mg X.w x tab) (hi : PM X E i mi) (hg : Gl X x := by rfl) (hd : (x == ("__debug__" : Str)) = false := by decide +kernel) (hs : PlainIx i := by exact fun _ _ => rfl) : PM X E (.Subscript (.Name x p) i pos) (mCDict tab mi) := by
  obtain ⟨a, hm, ht⟩ := T
  refine pe_imp (pe_ix ix_kdict (pe_glob (v := .ref a) hg hm rfl hd) hi hs) fun σ H Q q => ?_
  show (fun y H1 => _) (V.ref a) H
  refine tX.bind q fun ρ1 H1 w y s S1 rep env r o => ?_
  cases w with
  | str z =>
    cases e : tab.lookup z with
    | none => simp only [e] at o; exact o.elim
    | some v =>
      simp only [e] at o
      cases r
      exact ⟨a, z, .str v, rfl, rfl, ht z v e, Out.here o rep (.str _)⟩
  | _ => exact o.elim
end
end RL
end
section
set_option maxRecDepth 100000
set_option maxHeartbeats 4000000
namespace PySem.W
open PySem PySem.Calls PyProof.Rows
end PySem.W
namespace RL
open PySem PySem.Spec L2 OrdX
open PyProof.Rows hiding St
variable [Lams]
/-! ### instances -/
noncomputable def insAt (S : Store) : W → Option (Str × List Str × List W)
  | .ins c ns ws => some (c, ns, ws)
  | .ref l => match S[l]? with
    | some (.ins c ns ws) => some (c, ns, ws)
    | _ => none
  | _ => none
section
variable {K : PySem.W.Frag} {mg : Str → Option Value} {ρ ρ' : RT} {H H' : Hp} {S : Store}
theorem insAt_of {w : W} {x : V} {c : Str} {ns : List Str} {ws : List W} (rep : RepS K mg ρ H S) (r : RW K mg ρ H w x) (h : insAt S w = some (c, ns, ws)) : ∃ a C dx vs, x = .ref a ∧ mg c = some (.ref C) ∧ H a = some (.ins C dx (ns.zip vs)) ∧ ns.length = vs.length ∧ RWs K mg ρ H ws vs := by
  cases w with
  | ins c' ns' ws' => cases h; cases r with | ins hc hf hl hr => exact ⟨_, _, _, _, rfl, hc, hf.1, hl, hr⟩
  | ref l =>
    cases r with
    | @ref l p hl =>
      cases e : S[l]? with
      | none => simp [insAt, e] at h
      | some ob =>
        obtain ⟨a, h1, h2⟩ := rep.ob l _ e
        rw [hl] at h1; cases h1
        cases h2 with
        | ins hc h3 h4 h5 =>
          simp [insAt, e] at h
          obtain ⟨rfl, rfl, rfl⟩ := h
          exact ⟨_, _, _, _, rfl, hc, h3, h4, h5⟩
        | _ => simp [insAt, e] at h
  | _ => cases h
theorem lookup_rws {f : Str} {w : W} : ∀ {ns : List Str} {ws : List W} {vs : List V}, RWs K mg ρ H ws vs → (ns.zip ws).lookup f = some w → ∃ v, (ns.zip vs).lookup f = some v ∧ RW K mg ρ H w v
  | [], _, _, _, h => by simp at h
  | n :: ns, _, _, .nil, h => by simp at h
  | n :: ns, _, _, .cons r t, h => by
    rw [List.zip_cons_cons, List.lookup_cons] at h ⊢
    cases e : f == n with
    | true => rw [e] at h; cases h; exact ⟨_, rfl, r⟩
    | false => rw [e] at h; exact lookup_rws t h
theorem lookup_not {f : Str} : ∀ {ns : List Str} {vs : List V}, ns.contains f = false → (ns.zip vs).lookup f = none
  | [], _, _ => by simp
  | n :: ns, [], _ => by simp
  | n :: ns, v :: vs, h => by
    rw [List.contains_cons, Bool.or_eq_false_iff] at h
    rw [List.zip_cons_cons, List.lookup_cons, h.1]
    exact lookup_not h.2
end
/-! ### o.f -/
noncomputable def FldT (K : PySem.W.Frag) (mg : Str → Option Value) (c f : Str) : Prop := ∃ C, mg c = some (.ref C) ∧ Cls K C ∧ NoAttr K C f
noncomputable def gFld (c f : Str) (w : W) (S : Store) : Res W := match insAt S w with
  | some (c', ns, ws) => if c' = c then (match (ns.zip ws).lookup f with
    | some v => .ok v S
    | none => .bad) else .bad
  | none => .bad
section
variable {X : Cx} {E : EK} {pos apos : Pos} {e o : Expr} {es : List Expr} {ma mo : SM W} {mr : SM (List W)} {c f m : Str} {n k k' : Nat}
theorem pm_fld (T : FldT X.K X.mg c f) (he : PM X E e ma) (hb : attributeBase e f X.env (eval e X.env) = eval e X.env := by rfl) : PM X E (.Attribute e f pos) (mUn (gFld c f) ma) :=
  pe_imp (pe_fld he hb) fun σ H Q h => tX.bind (m := ma) (k := fun w s S => gFld c f w S) h fun ρ1 H1 w x s S1 rep env r o => by
    obtain ⟨C, hC, hc, hn⟩ := T
    unfold gFld at o
    cases e1 : insAt S1 w with
    | none => rw [e1] at o; exact o.elim
    | some p =>
      obtain ⟨c', ns, ws⟩ := p
      rw [e1] at o
      dsimp only at o
      split at o
      · rename_i hcc
        subst hcc
        cases e2 : (ns.zip ws).lookup f with
        | none => rw [e2] at o; exact o.elim
        | some v =>
          rw [e2] at o
          obtain ⟨a, C', dx, vs, rfl, hm, ha, hl, hr⟩ := insAt_of rep r e1
          rw [hC] at hm; cases hm
          obtain ⟨v', h1, h2⟩ := lookup_rws hr e2
          exact ⟨a, C, dx, _, v', rfl, ha, hc, hn, h1, Out.here o rep h2⟩
      · exact o.elim
end
theorem Out.monoQ {K : PySem.W.Frag} {mg : Str → Option Value} {α β : Type} {R : Rl β α} {E : EK} {ρ : RT} {H : Hp} {r : Res α} {Q Q' : β → Hp → Prop} (h : Out K mg R E ρ H r Q) (f : ∀ v H, Q v H → Q' v H) : Out K mg R E ρ H r Q' := by
  cases r with
  | ok w S => exact fun ρ1 H1 v e rep rr => f _ _ (h ρ1 H1 v e rep rr)
  | exc c ns ws S => exact h
  | bad => exact h
/-! ### methods -/
/-- a method of the class c that is worth g -/
noncomputable def MeE (P : Program) (w : World) (K : PySem.W.Frag) (mg : Str → Option Value) (base : Heap) (k : Nat) (c m q : Str) (st : Stmt) (ps : List Str) (g : Fn) : Prop :=
  ∃ C f fd, mg c = some (.ref C) ∧ Cls K C ∧ Meth K C m f ∧ Fun K m q st f fd ∧ Binds K fd ps [] ∧ FnM P w K mg base k f fd ps ps.length g
noncomputable def MTx (K : PySem.W.Frag) (mg : Str → Option Value) (c m q : Str) (st : Stmt) (ps : List Str) : Prop := ∃ C f fd, mg c = some (.ref C) ∧ Cls K C ∧ Meth K C m f ∧ Fun K m q st f fd ∧ Binds K fd ps []
noncomputable def mMeth (c m : Str) (g : Fn) (mo : SM W) (mr : SM (List W)) : SM W := fun s S => (mo s S).bind fun w S1 => match insAt S1 w with
  | some (c', ns, _) => if c' = c ∧ ns.contains m = false then (mr s S1).bind fun ws S2 => g (w :: ws) S2 else .bad
  | none => .bad
section
variable {P : Program} {w : World} {K : PySem.W.Frag} {mg : Str → Option Value} {base : Heap}
theorem me_e {c m q : Str} {st : Stmt} {N ps : List Str} {k : Nat} {b : SS} (T : MTx K mg c m q st ps) (Sc : FnScope N ps (defScope st))
    (hb : ∀ (f : Addr) (cdv : Value) (A : Around) (outer : List Env) (s : Shared) (H : Hp) (E : EK), Room k (A.deeper (envOfC q (defScope st) s.heap.objs.size f cdv)) → Takes (cxOf (L2.CX P w) P w K mg base N q (defScope st) f cdv A outer s H E) (fun c d _ H => E c d H) → PSsM (cxOf (L2.CX P w) P w K mg base N q (defScope st) f cdv A outer s H E) E (defBody st) b) :
    MeE P w K mg base (k + 1) c m q st ps (runB N.length b) := by
  obtain ⟨C, f, fd, h1, h2, h3, F, hb'⟩ := T
  exact ⟨C, f, fd, h1, h2, h3, F, hb', fn_m F Sc (hb f)⟩
end
section
variable {X : Cx} {E : EK} {pos apos : Pos} {e o : Expr} {es : List Expr} {mo : SM W} {mr : SM (List W)} {c m q : Str} {n k k' : Nat} {st : Stmt} {ps : List Str} {g : Fn} {pl : Sem Bool}
theorem meth_sp {C : Addr} {σ : L2.St} {H : Hp} {Q : VK} (hC : X.mg c = some (.ref C)) (h : tE X E (mMeth c m g mo mr) σ H Q) (hn : ∀ s S ws S', mr s S = .ok ws S' → ws.length = n) : tMeth C m (spM X.K X.mg (n + 1) g) [] E (tE X E mo) (tA X E mr) σ H Q :=
  tX.bind h fun ρ1 H1 w x s S1 rep env r out => by
    cases e1 : insAt S1 w with
    | none => rw [e1] at out; exact out.elim
    | some p =>
      obtain ⟨c', ns, ws0⟩ := p
      rw [e1] at out
      dsimp only at out
      split at out
      · rename_i hcc
        obtain ⟨hcc, hnm⟩ := hcc
        subst hcc
        obtain ⟨a, C', dx, vs0, rfl, hm, ha, hl, hr⟩ := insAt_of rep r e1
        rw [hC] at hm; cases hm
        refine ⟨a, dx, _, rfl, ha, lookup_not hnm, ρ1, s, S1, rep, env, ?_⟩
        cases e2 : mr s S1 with
        | ok ws S2 =>
          rw [e2] at out
          exact fun ρ2 H2 vs x rep2 r2 => ⟨ρ2, S2, w :: ws, rep2, by rw [List.append_nil]; exact .cons (r.ext x) r2, by rw [List.length_cons, hn _ _ _ _ e2], Out.ext x out⟩
        | exc c ns ws S2 => rw [e2] at out; exact out
        | bad => rw [e2] at out; exact out
      · exact out.elim
theorem pm_meth [hl : Len mr n] (F : MeE X.prog X.w X.K X.mg X.base k c m q st ps g) (hr : Room k' X.A) (hk : k ≤ k') (tk : Takes X (fun c d _ H => E c d H)) (ho : PM X E o mo) (ha : PAM X E (e :: es) mr) (hn : n + 1 = ps.length := by rfl)
    (hst : starEach (e :: es) X.env = (false, eval e X.env) :: starEach es X.env := by rfl) (hpl : (backTo pos (starEach es X.env)).any (·.1) = false := by rfl)
    (ht : eval (.Call (.Attribute o m apos) (e :: es) [] pos) X.env = (do
      let ov ← eval o X.env
      standAt apos.atName
      let (f, first) ← holding [ov] (getMethod ov m pl)
      callWith pos f first (backTo pos (starEach (e :: es) X.env)) (backToKw pos (keywordEach [] X.env))) := by rfl) : PM X E (.Call (.Attribute o m apos) (e :: es) [] pos) (mMeth c m g mo mr) := by
  obtain ⟨C, f, fd, h1, h2, h3, h4, h5, h6⟩ := F
  rw [← hn] at h6
  exact pe_imp (pe_meth (pl := pl) ho h2 h3 h6 (hr.mono hk) h5 .nil (passM tk) ha hst hpl ht) fun σ H Q h => meth_sp h1 h hl.len
theorem pm_meth0 (F : MeE X.prog X.w X.K X.mg X.base k c m q st ps g) (hr : Room k' X.A) (hk : k ≤ k') (tk : Takes X (fun c d _ H => E c d H)) (ho : PM X E o mo) (hn : 1 = ps.length := by rfl)
    (ht : eval (.Call (.Attribute o m apos) [] [] pos) X.env = (do
      let ov ← eval o X.env
      standAt apos.atName
      let (f, first) ← holding [ov] (getMethod ov m pl)
      callWith pos f first (backTo pos (starEach [] X.env)) (backToKw pos (keywordEach [] X.env))) := by rfl) : PM X E (.Call (.Attribute o m apos) [] [] pos) (mMeth c m g mo mNil) := by
  obtain ⟨C, f, fd, h1, h2, h3, h4, h5, h6⟩ := F
  rw [← hn] at h6
  refine pe_imp (pe_meth0 (pl := pl) ho h2 h3 h6 (hr.mono hk) h5 .nil (passM tk) ht) fun σ H Q h => ?_
  have := meth_sp (n := 0) h1 h (fun s S ws S' e => by cases e; rfl)
  obtain ⟨ρ, s, S, rep, env, o⟩ := this
  refine ⟨ρ, s, S, rep, env, o.monoQ fun x H1 ⟨a, dx, fs, e1, e2, e3, ρ2, s2, S2, rep2, env2, o2⟩ => ⟨a, dx, fs, e1, e2, e3, Out.here o2 rep2 .nil⟩⟩
end
/-! ### static methods -/
/-- a static method of the class c that is worth g -/
structure SmF (K : PySem.W.Frag) (C f : Addr) (m : Str) : Prop where
  ex : ∃ (mc : Value) (p : Addr) (rest : List Value), ClX.CRead K C mc ∧ PySem.W.findCls K (.ref C) mc m = some (.get (.builtin "staticmethod.__get__") (.ref p) .none (.ref C)) ∧ PySem.W.recIn K p "staticmethod" = some (.ref f :: rest)
noncomputable def StTx (K : PySem.W.Frag) (mg : Str → Option Value) (c m q : Str) (st : Stmt) (ps : List Str) : Prop := ∃ C f fd, mg c = some (.ref C) ∧ SmF K C f m ∧ Fun K m q st f fd ∧ Binds K fd ps []
noncomputable def StE (P : Program) (w : World) (K : PySem.W.Frag) (mg : Str → Option Value) (base : Heap) (k : Nat) (c m q : Str) (st : Stmt) (ps : List Str) (g : Fn) : Prop :=
  ∃ C f fd, mg c = some (.ref C) ∧ SmF K C f m ∧ Fun K m q st f fd ∧ Binds K fd ps [] ∧ FnM P w K mg base k f fd ps ps.length g
section
variable {P : Program} {w : World} {K : PySem.W.Frag} {mg : Str → Option Value} {base : Heap}
theorem st_e {c m q : Str} {st : Stmt} {N ps : List Str} {k : Nat} {b : SS} (T : StTx K mg c m q st ps) (Sc : FnScope N ps (defScope st))
    (hb : ∀ (f : Addr) (cdv : Value) (A : Around) (outer : List Env) (s : Shared) (H : Hp) (E : EK), Room k (A.deeper (envOfC q (defScope st) s.heap.objs.size f cdv)) → Takes (cxOf (L2.CX P w) P w K mg base N q (defScope st) f cdv A outer s H E) (fun c d _ H => E c d H) → PSsM (cxOf (L2.CX P w) P w K mg base N q (defScope st) f cdv A outer s H E) E (defBody st) b) :
    StE P w K mg base (k + 1) c m q st ps (runB N.length b) := by
  obtain ⟨C, f, fd, h1, h2, F, hb'⟩ := T
  exact ⟨C, f, fd, h1, h2, F, hb', fn_m F Sc (hb f)⟩
end
section
variable {X : Cx} {E : EK} {pos apos p : Pos} {e o : Expr} {es : List Expr} {mo : SM W} {mr mk : SM (List W)} {c m q : Str} {n k k' : Nat} {st : Stmt} {ps : List Str} {g : Fn} {pl : Sem Bool}
theorem getsm_ok {pins : List (Addr × Obj)} {σ : L2.St} {H : Hp} {s : Shared} {A : Around} {E : Value → Shared → Prop} {C f : Addr} {Q : Value × List Value → Shared → Prop} (I : Inv X pins σ H s) (F : SmF X.K C f m) (h : ∀ s', Inv X pins σ H s' → Q (.ref f, []) s') :
    wpAny (model X.prog X.w) A (getMethod (.ref C) m pl) Q E s := by
  obtain ⟨mc, p, rest, r, e, hp⟩ := F.ex
  refine PySem.W.method_cls I.kIn r.ga (PySem.W.cls_bind I.kIn r.rd e (wpAny_call (PySem.W.sm_get (s := { s with toks := s.toks + 1 }) I.kIn hp ?_)))
  exact PySem.W.handed_on rfl (h _ (I.tok _))
theorem pm_stat [hl : Len mr n] (F : StE X.prog X.w X.K X.mg X.base k c m q st ps g) (hr : Room k' X.A) (hk : k ≤ k') (tk : Takes X (fun c d _ H => E c d H)) (ha : PAM X E (e :: es) mr) (hn : n = ps.length := by rfl)
    (hg : Gl X c := by rfl) (hdb : (c == ("__debug__" : Str)) = false := by decide +kernel)
    (hst : starEach (e :: es) X.env = (false, eval e X.env) :: starEach es X.env := by rfl) (hpl : (backTo pos (starEach es X.env)).any (·.1) = false := by rfl)
    (ht : eval (.Call (.Attribute (.Name c p) m apos) (e :: es) [] pos) X.env = (do
      let ov ← eval (.Name c p) X.env
      standAt apos.atName
      let (f, first) ← holding [ov] (getMethod ov m pl)
      callWith pos f first (backTo pos (starEach (e :: es) X.env)) (backToKw pos (keywordEach [] X.env))) := by rfl) : PM X E (.Call (.Attribute (.Name c p) m apos) (e :: es) [] pos) (mAp g mr) := by
  obtain ⟨C, f, fd, h1, h2, h4, h5, h6⟩ := F
  rw [← hn] at h6
  refine ⟨fun pins s σ H Q I h => ?_⟩
  refine PySem.W.methodCall_KW (pl := pl) (thn ((pe_glob (v := .ref C) (pos := p) hg h1 rfl hdb).run pins s σ H (fun v H1 => v = .ref C ∧ H1 = H) I ⟨rfl, rfl⟩) fun u s1 ⟨x, H1, I1, rx, ex, eH⟩ => ?_) ht
  subst ex eH
  obtain rfl : u = Value.ref C := rx
  refine getsm_ok I1 h2 fun s2 I2 => ?_
  refine PySem.W.callWith_K (first := []) (h₀ := X.base) I2.ok.mod.kin h4.kp (thn (ha.run pos pins s2 σ H1 _ I2 (call_sp h hl.len)) fun us s3 ⟨vs, H2, I3, r, q2⟩ => ⟨I3.kIn, ?_⟩) hst hpl
  exact run_fn (us := us) (vs := vs) h6 (hr.mono hk) h5 .nil (passM tk) I3 r q2
theorem pm_stat0 (F : StE X.prog X.w X.K X.mg X.base k c m q st [] g) (hr : Room k' X.A) (hk : k ≤ k') (tk : Takes X (fun c d _ H => E c d H))
    (hg : Gl X c := by rfl) (hdb : (c == ("__debug__" : Str)) = false := by decide +kernel)
    (ht : eval (.Call (.Attribute (.Name c p) m apos) [] [] pos) X.env = (do
      let ov ← eval (.Name c p) X.env
      standAt apos.atName
      let (f, first) ← holding [ov] (getMethod ov m pl)
      callWith pos f first (backTo pos (starEach [] X.env)) (backToKw pos (keywordEach [] X.env))) := by rfl) : PM X E (.Call (.Attribute (.Name c p) m apos) [] [] pos) (mAp g mNil) := by
  obtain ⟨C, f, fd, h1, h2, h4, h5, h6⟩ := F
  refine ⟨fun pins s σ H Q I h => ?_⟩
  refine PySem.W.methodCall_KW (pl := pl) (thn ((pe_glob (v := .ref C) (pos := p) hg h1 rfl hdb).run pins s σ H (fun v H1 => v = .ref C ∧ H1 = H) I ⟨rfl, rfl⟩) fun u s1 ⟨x, H1, I1, rx, ex, eH⟩ => ?_) ht
  subst ex eH
  obtain rfl : u = Value.ref C := rx
  refine getsm_ok I1 h2 fun s2 I2 => ?_
  refine PySem.W.callWith_K0 (first := []) I2.kIn h4.kp (run_fn (us := []) (vs := []) h6 (hr.mono hk) h5 .nil (passM tk) I2 .nil ?_)
  obtain ⟨ρ, s', S, rep, env, o⟩ := h
  exact ⟨ρ, S, [], rep, .nil, rfl, o⟩
end
/-! ### new instances of a class whose __init__ only keeps its arguments -/
noncomputable def tInit (C : Addr) : List (Str × Nat) → TS
  | [] => fun D σ H => D.nx σ H
  | (f, i) :: l => fun D σ H => ∃ x dx fs v, σ[0]? = some (some (V.ref x)) ∧ σ[i]? = some (some v) ∧ H x = some (.ins C dx fs) ∧ fs.length < 1000 ∧ tInit C l D σ (upd H x (.ins C dx (putF f v fs)))
theorem psi_nil {X : Cx} {C : Addr} : PSs X [] (tInit C []) := pss_imp pss_nil fun D σ H h => h
theorem psi_cons {X : Cx} {C : Addr} {x0 f y : Str} {i : Nat} {p1 p2 p3 p4 : Pos} {sts : List Stmt} {l : List (Str × Nat)} (hc : Cls X.K C) (hn : NoAttr X.K C f) (hs : PSs X sts (tInit C l)) (h0 : X.N[0]? = some x0 := by rfl) (hi : X.N[i]? = some y := by rfl)
    (hv0 : Vis X.env.scope x0 := by first | exact Or.inl rfl | exact Or.inr (Or.inl rfl)) (hvi : Vis X.env.scope y := by first | exact Or.inl rfl | exact Or.inr (Or.inl rfl))
    (hd0 : (x0 == ("__debug__" : Str)) = false := by decide +kernel) (hdi : (y == ("__debug__" : Str)) = false := by decide +kernel) (hk0 : (x0 == ("__classdict__" : Str)) = false := by decide +kernel) (hki : (y == ("__classdict__" : Str)) = false := by decide +kernel)
    (hsw : swapsWith (.Name y p3) (some (.Attribute (.Name x0 p1) f p2)) p4.line X.env = pure false := by rfl) :
    PSs X (.Assign [.Attribute (.Name x0 p1) f p2] (.Name y p3) p4 :: sts) (tInit C ((f, i) :: l)) :=
  pss_imp (pss_cons (ps_fld (pe_var (pos := p1) h0 hv0 hd0 hk0) (pe_var (pos := p3) hi hvi hdi hki) hsw) hs) fun D σ H ⟨x, dx, fs, v, e0, ei, ex, hl, h⟩ => ⟨v, ei, .ref x, e0, x, C, dx, fs, rfl, ex, hc, hn, hl, h⟩
end RL
end
section
set_option maxRecDepth 100000
set_option maxHeartbeats 4000000
namespace RL
open PySem PySem.Spec L2 OrdX
open PyProof.Rows hiding St
variable [Lams]
/-! ### C(..) -/
theorem upd_id {H : Hp} {a : Addr} {o : HO} (h : H a = some o) : upd H a o = H := by
  funext b
  by_cases e : b = a
  · subst e; rw [upd_same, h]
  · rw [upd_ne e]
theorem putF_new {f : Str} {v : V} : ∀ {fs : List (Str × V)}, f ∉ fs.map (·.1) → putF f v fs = fs ++ [(f, v)]
  | [], _ => rfl
  | (g, x) :: r, h => by
    rw [List.map_cons, List.mem_cons, not_or] at h
    rw [show putF f v ((g, x) :: r) = (if g = f then (g, v) :: r else (g, x) :: putF f v r) from rfl, if_neg (fun e => h.1 e.symm), putF_new h.2]
    rfl
theorem init_run {C x dx : Addr} {D : Ends} : ∀ {l : List (Str × Nat)} {us : List V} {fs : List (Str × V)} {σ : L2.St} {H : Hp}, σ[0]? = some (some (V.ref x)) → (∀ (j : Nat) p, l[j]? = some p → ∃ u, us[j]? = some u ∧ σ[p.2]? = some (some u)) → us.length = l.length →
    (l.map (·.1)).Nodup → (∀ p ∈ l, p.1 ∉ fs.map (·.1)) → fs.length + l.length < 1000 → H x = some (.ins C dx fs) → D.nx σ (upd H x (.ins C dx (fs ++ (l.map (·.1)).zip us))) → tInit C l D σ H
  | [], us, fs, σ, H, _, _, hl, _, _, _, hx, h => by
    have : upd H x (.ins C dx (fs ++ ([] : List Str).zip us)) = H := by rw [List.zip_nil_left, List.append_nil]; exact upd_id hx
    rw [List.map_nil, this] at h
    exact h
  | (f, i) :: l, [], _, _, _, _, _, hl, _, _, _, _, _ => by simp at hl
  | (f, i) :: l, u :: us, fs, σ, H, h0, hv, hl, nd, hn, hz, hx, h => by
    obtain ⟨u', e1, e2⟩ := hv 0 (f, i) rfl
    cases (Option.some.inj e1 : u = u')
    rw [List.map_cons, List.nodup_cons] at nd
    rw [List.length_cons] at hz
    refine ⟨x, dx, fs, u, h0, e2, hx, by omega, ?_⟩
    rw [putF_new (hn (f, i) List.mem_cons_self)]
    refine init_run (us := us) (fs := fs ++ [(f, u)]) h0 (fun j p hj => hv (j + 1) p hj) (by simpa using hl) nd.2 (fun p m => ?_) (by rw [List.length_append, List.length_singleton]; omega) upd_same ?_
    · rw [List.map_append, List.mem_append, not_or]
      refine ⟨hn p (List.mem_cons_of_mem _ m), fun z => ?_⟩
      have : p.1 = f := by simpa using z
      exact nd.1 (this ▸ List.mem_map.mpr ⟨p, m, rfl⟩)
    · rw [upd_upd, List.append_assoc]
      exact h
/-- what such an __init__ promises -/
noncomputable def spInit (C : Addr) (ns : List Str) : Sp := fun vs H Q _ => ∃ x dx us, vs = V.ref x :: us ∧ us.length = ns.length ∧ H x = some (.ins C dx []) ∧ Q .non (upd H x (.ins C dx (ns.zip us)))
noncomputable def MkE (P : Program) (w : World) (K : PySem.W.Frag) (mg : Str → Option Value) (base : Heap) (k : Nat) (c : Str) (ns : List Str) : Prop :=
  ∃ C f fd ps, mg c = some (.ref C) ∧ Mk K C f ∧ Binds K fd ps [] ∧ FnOk P w K mg base (L2.CX P w) k f fd ps (spInit C ns)
/-- the text's facts of a class and its __init__ -/
noncomputable def MkTx (K : PySem.W.Frag) (mg : Str → Option Value) (c q : Str) (st : Stmt) (ps ns : List Str) : Prop := ∃ C f fd, mg c = some (.ref C) ∧ Cls K C ∧ Mk K C f ∧ Fun K "__init__" q st f fd ∧ Binds K fd ps [] ∧ ∀ n ∈ ns, NoAttr K C n
theorem mk_e {P : Program} {w : World} {K : PySem.W.Frag} {mg : Str → Option Value} {base : Heap} {c q : Str} {st : Stmt} {N ps ns : List Str} {k : Nat} {l : List (Str × Nat)} (T : MkTx K mg c q st ps ns) (Sc : FnScope N ps (defScope st))
    (hl : l.map (·.1) = ns) (hsl : l.map (·.2) = (List.range ns.length).map (· + 1)) (nd : ns.Nodup) (h1000 : ns.length < 1000) (hp : ps.length = ns.length + 1) (hN : ps.length ≤ N.length)
    (hb : ∀ (C f : Addr) (cdv : Value) (A : Around) (outer : List Env) (s : Shared) (H : Hp) (E : XK), Cls K C → (∀ n ∈ ns, NoAttr K C n) → PSs (cxOf (L2.CX P w) P w K mg base N q (defScope st) f cdv A outer s H E) (defBody st) (tInit C l)) :
    MkE P w K mg base (k + 1) c ns := by
  obtain ⟨C, f, fd, h1, h2, h3, F, h5, h6⟩ := T
  refine ⟨C, f, fd, ps, h1, h3, h5, F.okX Sc (fun vs H Q E h => ?_) fun cdv A outer s H vs Q E hr h => ⟨_, hb C f cdv A outer s H E h2 h6, ?_⟩⟩
  · obtain ⟨x, dx, us, rfl, e, _⟩ := h
    rw [List.length_cons, e, hp]
  · obtain ⟨x, dx, us, rfl, e, hx, q⟩ := h
    have hll : l.length = ns.length := by rw [← hl, List.length_map]
    refine init_run (x := x) (dx := dx) (us := us) (fs := []) (by simp [L2.start]) (fun j p hj => ?_) (by rw [e, hll]) (by rw [hl]; exact nd) (by simp) (by rw [List.length_nil, hll]; omega) hx (by rw [List.nil_append, hl]; exact q)
    have hjl : j < l.length := (List.getElem?_eq_some_iff.mp hj).1
    have hju : j < us.length := by rw [e, ← hll]; exact hjl
    refine ⟨us[j], List.getElem?_eq_getElem hju, ?_⟩
    have e2 : p.2 = j + 1 := by
      have : (l.map (·.2))[j]? = some p.2 := by rw [List.getElem?_map, hj]; rfl
      rw [hsl, List.getElem?_map, List.getElem?_range (by rw [← hll]; exact hjl)] at this
      exact (Option.some.inj this).symm
    rw [e2]
    unfold L2.start
    rw [List.getElem?_append_left (by simp; omega), List.getElem?_map, List.getElem?_cons_succ, List.getElem?_eq_getElem hju]
    rfl
noncomputable def gMake (c : Str) (ns : List Str) (ws : List W) (S : Store) : Res W := if ws.length = ns.length then .ok (.ins c ns ws) S else .bad
section
variable {X : Cx} {E : EK} {pos apos p : Pos} {e o : Expr} {es : List Expr} {mo : SM W} {mr mk : SM (List W)} {c m q x : Str} {n k k' : Nat} {st : Stmt} {ps ns : List Str} {g : Fn} {pl : Sem Bool}
theorem pm_make (F : MkE X.prog X.w X.K X.mg X.base k c ns) (hr : Room k' X.A) (hk : k + 1 ≤ k') (tk : Takes X (fun c d _ H => E c d H)) (ha : PAM X E (e :: es) mr)
    (hg : Gl X c := by rfl) (hdb : (c == ("__debug__" : Str)) = false := by decide +kernel) (he : starEach (e :: es) X.env = (false, eval e X.env) :: starEach es X.env := by rfl) (hpl : (backTo pos (starEach es X.env)).any (·.1) = false := by rfl) : PM X E (.Call (.Name c p) (e :: es) [] pos) (mAp (gMake c ns) mr) := by
  obtain ⟨C, f, fd, ps, h1, h2, h3, h4⟩ := F
  refine pe_imp (pe_make (E := E) h2 h4 (hr.mono hk) hg h1 h3 .nil (passM tk) ha hdb he hpl) fun σ H Q h => ?_
  refine tX.bind (m := mr) (k := fun ws s S => gMake c ns ws S) h fun ρ1 H1 ws vs s S1 rep env r o x dx hx hdx hne => ?_
  unfold gMake at o
  split at o
  · rename_i hz
    rw [List.append_nil]
    obtain ⟨e1, rep1⟩ := rep.tree hdx (.own x)
    have hx1 : upd H1 dx (.own x) x = none := by rw [upd_ne (fun z => hne z.symm)]; exact hx
    obtain ⟨e2, rep2⟩ := rep1.tree hx1 (.ins C dx (ns.zip vs))
    refine ⟨x, dx, vs, rfl, by rw [← r.length]; exact hz, upd_same, rfl, ?_⟩
    rw [upd_upd]
    exact o ρ1 _ _ (e1.trans e2) rep2 (.ins h1 (fx_new rep1 hx1 _) (by rw [← r.length]; exact hz.symm) ((r.ext e1).ext e2))
  · exact o.elim
end
/-! ### a class by its name -/
theorem kcon_cls {K : PySem.W.Frag} {mg : Str → Option Value} {x : Str} {C : Addr} (h : mg x = some (.ref C)) : KCon K mg x (.gl x) := ⟨.ref C, .ref C, h, rfl, fun _ _ => .gl h⟩
/-! ### defs with *rest -/
noncomputable def StarE (P : Program) (w : World) (K : PySem.W.Frag) (mg : Str → Option Value) (base : Heap) (k : Nat) (x : Str) (np : Nat) (g : Fn) : Prop :=
  ∃ f, mg x = some (.ref f) ∧ PySem.W.keepIn K (.ref f) = true ∧ FnR P w K mg base (L2.CX P w) k f (fun vs H Q E => ∃ ρ S ws us, RepS K mg ρ H S ∧ RWs K mg ρ H (ws ++ us) vs ∧ ws.length = np ∧ us.length ≤ lim ∧ Out K mg (RW K mg) E ρ H (g (ws ++ [.tup us]) S) Q)
noncomputable def StarTx (K : PySem.W.Frag) (mg : Str → Option Value) (x : Str) (st : Stmt) (ps : List Str) (pv : Str) : Prop :=
  ∃ (f : Addr) (oc : Value) (od : Option Addr) (kV doc pm : Value) (an : Option Addr) (cdv ct : Value) (osl : Array (Option Value)), mg x = some (.ref f) ∧ PySem.W.keepIn K (.ref f) = true ∧
    K.lookup f = some ⟨oc, od, .func (PySem.W.fnOf x x (defArgs st) (defBody st) (defScope st) .none kV doc pm an cdv ct), osl⟩ ∧ PySem.W.codeIn K cdv x = true ∧
    ∀ us rest : List Value, us.length = ps.length → bindArgs (PySem.W.fnOf x x (defArgs st) (defBody st) (defScope st) .none kV doc pm an cdv ct) ⟨us ++ rest, []⟩ = (newTuple rest >>= fun t => pure (ps.zip us ++ [(pv, t)]))
theorem RWs.split {K : PySem.W.Frag} {mg : Str → Option Value} {ρ : RT} {H : Hp} : ∀ {ws us : List W} {vs : List V}, RWs K mg ρ H (ws ++ us) vs → ∃ v1 v2, vs = v1 ++ v2 ∧ RWs K mg ρ H ws v1 ∧ RWs K mg ρ H us v2
  | [], us, vs, r => ⟨[], vs, rfl, .nil, r⟩
  | w :: ws, us, _, .cons a r => by
    obtain ⟨v1, v2, e, r1, r2⟩ := RWs.split (ws := ws) (us := us) r
    exact ⟨_ :: v1, v2, by rw [e]; rfl, .cons a r1, r2⟩
theorem star_e {P : Program} {w : World} {K : PySem.W.Frag} {mg : Str → Option Value} {base : Heap} {x pv : Str} {st : Stmt} {N ps : List Str} {k : Nat} {m : SS} (T : StarTx K mg x st ps pv) (Sc : FnScope N (ps ++ [pv]) (defScope st))
    (hb : ∀ (f : Addr) (cdv : Value) (A : Around) (outer : List Env) (s : Shared) (H : Hp) (E : EK), Room k (A.deeper (envOfC x (defScope st) s.heap.objs.size f cdv)) → Takes (cxOf (L2.CX P w) P w K mg base N x (defScope st) f cdv A outer s H E) (fun c d _ H => E c d H) → PSsM (cxOf (L2.CX P w) P w K mg base N x (defScope st) f cdv A outer s H E) E (defBody st) m) :
    StarE P w K mg base (k + 1) x ps.length (runB N.length m) := by
  obtain ⟨f, oc, od, kV, doc, pm, an, cdv, ct, osl, h1, h2, h3, h4, h5⟩ := T
  refine ⟨f, h1, h2, FnR.imp (StX.fn_star (sp := spM K mg (ps.length + 1) (runB N.length m)) h3 h4 Sc StX.cxUp h5 fun A outer s H vs Q E hr h => ⟨_, hb f cdv A outer s H ⟨E, fun _ => none⟩ hr (takes_of rfl rfl rfl rfl), ?_⟩) fun vs H Q E h => ?_⟩
  · obtain ⟨ρ, S, ws, rep, rs, hn, o⟩ := h
    refine ⟨ρ, startW N.length ws, S, rep, env_start rs (fun _ _ q => nomatch q), ?_⟩
    unfold runB at o
    show OutS K mg ⟨E, fun _ => none⟩ ρ H (m (startW N.length ws) S) _
    cases e : m (startW N.length ws) S with
    | ok p S1 =>
      obtain ⟨fl, s1⟩ := p
      rw [e] at o
      cases fl with
      | nx => exact fun ρ' H' σ' x rep' env' => o ρ' H' .non x rep' .non
      | rt u => exact o
      | bk => exact o.elim
      | ct => exact o.elim
    | exc c ns ws' S1 => rw [e] at o; exact o
    | bad => rw [e] at o; exact o
  · obtain ⟨ρ, S, ws, us, rep, rs, hn, hz, o⟩ := h
    obtain ⟨v1, v2, rfl, r1, r2⟩ := rs.split
    refine ⟨v1, v2, rfl, by rw [← r1.length]; exact hn, by rw [← r2.length]; exact lim_line hz, fun p hp => ?_⟩
    obtain ⟨e1, rep1⟩ := rep.tree hp (.tup v2)
    exact ⟨ρ, S, ws ++ [.tup us], rep1, (r1.ext e1).append (.cons (.tup (.inl (fx_new rep hp _)) (r2.ext e1)) .nil), by rw [List.length_append, List.length_singleton, hn], Out.ext e1 o⟩
/-- the arguments as the def sees them -/
noncomputable def gStar (np : Nat) (g : Fn) (ws : List W) (S : Store) : Res W := if np ≤ ws.length ∧ ws.length ≤ lim then g (ws.take np ++ [.tup (ws.drop np)]) S else .bad
section
variable {X : Cx} {E : EK} {pos p : Pos} {e : Expr} {es : List Expr} {mr : SM (List W)} {x : Str} {n np k k' : Nat} {g : Fn}
theorem star_sp {σ : L2.St} {H : Hp} {Q : VK} (h : tE X E (mAp (gStar np g) mr) σ H Q) : tA X E mr σ H fun vs H => ∃ ρ S ws us, RepS X.K X.mg ρ H S ∧ RWs X.K X.mg ρ H (ws ++ us) vs ∧ ws.length = np ∧ us.length ≤ lim ∧ Out X.K X.mg (RW X.K X.mg) E ρ H (g (ws ++ [.tup us]) S) Q :=
  tX.bind (m := mr) (k := fun ws s S => gStar np g ws S) h fun ρ1 H1 ws vs s S1 rep env r o => by
    unfold gStar at o
    split at o
    · rename_i hz
      exact ⟨ρ1, S1, ws.take np, ws.drop np, rep, by rw [List.take_append_drop]; exact r, by rw [List.length_take]; omega, by rw [List.length_drop]; exact Nat.le_trans (Nat.sub_le _ _) hz.2, o⟩
    · exact o.elim
theorem pm_callV (F : StarE X.prog X.w X.K X.mg X.base k x np g) (hr : Room k' X.A) (hk : k ≤ k') (tk : Takes X (fun c d _ H => E c d H)) (ha : PAM X E (e :: es) mr)
    (hg : Gl X x := by rfl) (hdb : (x == ("__debug__" : Str)) = false := by decide +kernel) (he : starEach (e :: es) X.env = (false, eval e X.env) :: starEach es X.env := by rfl) (hpl : (backTo pos (starEach es X.env)).any (·.1) = false := by rfl) : PM X E (.Call (.Name x p) (e :: es) [] pos) (mAp (gStar np g) mr) := by
  obtain ⟨f, h1, h2, h3⟩ := F
  refine ⟨fun pins s σ H Q I h => ?_⟩
  refine wpAny_Call_Name_kw (ld_glob I hg h1 ?_ hdb)
  refine PySem.W.callWith_K (h₀ := X.base) I.ok.mod.kin h2 (thn (ha.run pos pins s σ H _ I (star_sp h)) fun us s1 ⟨vs, H1, I1, r, q⟩ => ⟨I1.kIn, ?_⟩) he hpl
  exact wpAny_call (run_fnR h3 (hr.mono hk) (passM tk) I1 r q)
end
/-! ### own operators -/
noncomputable def isIns (c : Str) : W → Bool
  | .ins c' _ _ => c' == c
  | _ => false
noncomputable def isStr : W → Bool
  | .str _ => true
  | _ => false
/-- what a class's operator wants of the text -/
structure OwnOp (K : PySem.W.Frag) (C : Addr) (op : Operator) (f r : Addr) : Prop where
  first : PySem.W.selfFirst K C = true
  fw : PySem.W.findIn K (.ref C) (PySem.dunder op.info.2) = some (some (.ref f))
  fn : PySem.W.isFn K (.ref f) = true
  rw : PySem.W.findIn K (.ref C) (dunderR op.info.2) = some (some (.ref r))
  rn : PySem.W.isFn K (.ref r) = true
  s1 : PySem.W.findIn K (.type "str") (PySem.dunder op.info.2) = some none
  s2 : PySem.W.findIn K (.type "str") (dunderR op.info.2) = some none
  sub : PySem.W.subIn K (.type "str") (.ref C) = some false
noncomputable def gOwn (c : Str) (base : W → W → Store → Res W) (g gr : Fn) (w1 w2 : W) (S : Store) : Res W :=
  if isIns c w1 = true then (if (isIns c w2 || isStr w2) = true then g [w1, w2] S else .bad) else if isIns c w2 = true then (if isStr w1 = true then gr [w2, w1] S else .bad) else base w1 w2 S
section
variable {X : Cx} {E : EK} {c m1 m2 q1 q2 : Str} {k k' : Nat} {st1 st2 : Stmt} {ps1 ps2 : List Str} {g gr : Fn} {base : W → W → Store → Res W}
theorem cmpBack {pins : List (Addr × Obj)} {σ : L2.St} {Q : VK} {v : Value} {s : Shared} (h : EP X pins σ Q v s) : PySem.W.CmpBack (EP X pins σ Q) v s := by
  obtain ⟨x, H', I, r, q⟩ := h
  cases v <;> first | exact ⟨x, H', I, r, q⟩ | (cases x <;> first | (cases (r : _ = _); done) | (obtain ⟨_, e⟩ := (r : ∃ _, _); cases e))
theorem ins_of {K : PySem.W.Frag} {mg : Str → Option Value} {ρ : RT} {H : Hp} {w : W} {x : V} {C : Addr} (hC : mg c = some (.ref C)) (r : RW K mg ρ H w x) (h : isIns c w = true) : ∃ a dx fs, x = .ref a ∧ H a = some (.ins C dx fs) := by
  cases w with
  | ins c' ns ws =>
    have h : c' = c := by simpa [isIns] using h
    subst h
    cases r with | ins hc hf hl hr => rw [hC] at hc; cases hc; exact ⟨_, _, _, rfl, hf.1⟩
  | _ => cases h
theorem inst_of {pins : List (Addr × Obj)} {σ : L2.St} {H : Hp} {s : Shared} {a C dx : Addr} {fs : List (Str × V)} (I : Inv X pins σ H s) (h : H a = some (.ins C dx fs)) : ∃ ox od, PySem.W.InstAt s.heap a ox C od ∧ ox.data = .plain := by
  obtain ⟨mA, J, _⟩ := ins_get I.hok h
  obtain ⟨od, J, _⟩ := J.look
  exact ⟨_, _, J, rfl⟩
/-- ~x -/
noncomputable def gInv (c : Str) (g : Fn) (w : W) (S : Store) : Res W := if isIns c w = true then g [w] S else .bad
theorem um_inv {q : Str} {st : Stmt} {ps : List Str} (F : MeE X.prog X.w X.K X.mg X.base k c "__invert__" q st ps g) (hr : Room k' X.A) (hk : k ≤ k') (tk : Takes X (fun c d _ H => E c d H)) (hn : ps.length = 1) : UnM X E (unaryOp .Invert) (gInv c g) := by
  intro pins s σ H x v Q I rx ⟨ρ, S, w, rep, r, o⟩
  obtain ⟨C, f, fd, a1, a2, a3, a4, a5, a6⟩ := F
  rw [hn] at a6
  unfold gInv at o
  obtain ⟨m, hF⟩ := I.fr
  split at o
  · rename_i h1
    obtain ⟨a, dx, fs, rfl, ha⟩ := ins_of a1 r h1
    obtain ⟨ox, od, J, _⟩ := inst_of I ha
    obtain rfl : v = Value.ref a := rx
    exact PySem.W.ksp_inv hF I.ok.mod.kin J a3.at_ a3.fn (run_fn (us := [.ref a]) (vs := [.ref a]) a6 (hr.mono hk) a5 .nil (passM tk) I (.cons rfl .nil) ⟨ρ, S, [w], rep, .cons r .nil, rfl, o⟩)
  · exact o.elim
end
end RL
end
section
set_option maxRecDepth 100000
set_option maxHeartbeats 4000000
namespace RL
open PySem PySem.Spec L2 OrdX
open PyProof.Rows hiding St
variable [Lams]
/-! ### isinstance with an own class -/
noncomputable abbrev tys7 : List String := ["NoneType", "bool", "int", "str", "tuple", "list", "dict"]
noncomputable abbrev tys6 : List String := ["bool", "int", "str", "tuple", "list", "dict"]
structure IsT (K : PySem.W.Frag) (mg : Str → Option Value) (c : Str) : Prop where
  ex : ∃ C, mg c = some (.ref C) ∧ (∀ a ∈ tys7, PySem.W.kitOne K (.type a) (.ref C) = some false) ∧ PySem.W.kitOne K (.ref C) (.ref C) = some true ∧ (∀ b ∈ tys6, PySem.W.kitOne K (.ref C) (.type b) = some false) ∧
    Cls K C ∧ PySem.W.findIn K (.ref C) "__class__" = some (some (.builtin "object.__class__")) ∧
    PySem.W.specialIn K (.builtin "object.__class__") "__get__" = some (some (.builtin "getset_descriptor.__get__")) ∧ PySem.W.takesIn K (.builtin "object.__class__") = some true ∧ PySem.W.mroIn K C (.type "object") = some true
noncomputable def ktC (c : Str) : KT := fun t d => match t, d with
  | .ty a, .gl d => if d = c ∧ a ∈ tys7 then some false else none
  | .gl a, .gl d => if a = c ∧ d = c then some true else none
  | .gl a, .ty b => if a = c ∧ b ∈ tys6 then some false else none
  | t, d => ktB t d
theorem ktC_ok {K : PySem.W.Frag} {mg : Str → Option Value} {c : Str} (T : IsT K mg c) : KtOk K mg (ktC c) where
  one := fun t d b tv cv h ht hc => by
    obtain ⟨C, hC, h1, h2, h3, _⟩ := T.ex
    cases ht with
    | ty n =>
      cases hc with
      | ty m => exact ktB_ok.one (.ty n) (.ty m) b _ _ h (.ty n) (mg := mg) (.ty m)
      | @gl x a hg =>
        replace h : (if x = c ∧ n ∈ tys7 then some false else none) = some b := h
        split at h
        · rename_i hz
          obtain ⟨rfl, hz⟩ := hz
          cases h
          rw [hC] at hg; cases hg
          exact h1 n hz
        · cases h
    | @gl x a hg =>
      cases hc with
      | ty m =>
        replace h : (if x = c ∧ m ∈ tys6 then some false else none) = some b := h
        split at h
        · rename_i hz
          obtain ⟨rfl, hz⟩ := hz
          cases h
          rw [hC] at hg; cases hg
          exact h3 m hz
        · cases h
      | @gl y a' hg' =>
        replace h : (if x = c ∧ y = c then some true else none) = some b := h
        split at h
        · rename_i hz
          obtain ⟨rfl, rfl⟩ := hz
          cases h
          rw [hC] at hg hg'; cases hg; cases hg'
          exact h2
        · cases h
  ins := fun d D hD ⟨e, b, h⟩ => by
    obtain ⟨C, hC, h1, h2, h3, h4⟩ := T.ex
    have : d = c := by
      cases e with
      | ty m =>
        replace h : (if d = c ∧ m ∈ tys6 then some false else none) = some b := h
        split at h
        · rename_i hz; exact hz.1
        · cases h
      | gl y =>
        replace h : (if d = c ∧ y = c then some true else none) = some b := h
        split at h
        · rename_i hz; exact hz.1
        · cases h
      | _ => cases h
    subst this
    rw [hC] at hD; cases hD
    exact h4
/-! ### the text's facts, made -/
noncomputable def ClsT (K : PySem.W.Frag) (mg : Str → Option Value) (c : Str) : Prop := ∃ C, mg c = some (.ref C) ∧ Cls K C
/-- the body of a class -/
noncomputable def clsB : Stmt → List Stmt
  | .ClassDef _ _ _ b _ _ _ _ _ _ _ => b
  | _ => []
section
variable {K : PySem.W.Frag} {mg : Str → Option Value} {h : Heap} {c m q f : Str} {C g : Addr} {st : Stmt} {ps ns : List Str}
theorem clsT_mk (X : K.In h) (G : h.Ns mainGlobals mg) (a : PySem.W.nsIn K mainGlobals c = some (some (.ref C))) (pg : PySem.W.plainGet K C Str.empty = true) (hd : PySem.W.hasDictIn K C = true) (po : PySem.W.plainOver K C = true)
    (sa : PySem.W.findIn K (.ref C) "__setattr__" = some (some (.builtin "object.__setattr__"))) : ClsT K mg c := ⟨C, PySem.W.mg_of X G a, pg, hd, po, sa⟩
theorem ClsT.at (T : ClsT K mg c) (h : mg c = some (.ref C)) : Cls K C := by
  obtain ⟨D, h1, h2⟩ := T
  rw [h] at h1; cases h1
  exact h2
theorem kconC_mk (X : K.In h) (G : h.Ns mainGlobals mg) (a : PySem.W.nsIn K mainGlobals c = some (some (.ref C))) : KCon K mg c (.gl c) := kcon_cls (PySem.W.mg_of X G a)
theorem fldT_mk (X : K.In h) (G : h.Ns mainGlobals mg) (a : PySem.W.nsIn K mainGlobals c = some (some (.ref C))) (T : ClsT K mg c) (n : PySem.W.findIn K (.ref C) f = some none) : FldT K mg c f :=
  ⟨C, PySem.W.mg_of X G a, T.at (PySem.W.mg_of X G a), n⟩
theorem kit_own {K : PySem.W.Frag} {a : String} {C : Addr} (h1 : PySem.W.isClsIn K C = true) (h2 : PySem.W.typeIn K (.ref C) = some (.type "type")) {b : Bool} (h3 : PySem.W.subIn K (.type a) (.ref C) = some b) : PySem.W.kitOne K (.type a) (.ref C) = some b := by
  have hne : (Value.type a == Value.ref C) = false := Bool.eq_false_iff.mpr fun q => by cases beq_iff_eq.mp q
  unfold PySem.W.kitOne PySem.W.kitCls
  rw [hne, if_neg Bool.false_ne_true]
  dsimp only
  rw [show (PySem.W.clsIn K C).isSome = true from h1, h2, Bool.true_and, if_pos (beq_self_eq_true _)]
  exact h3
theorem kit_self {K : PySem.W.Frag} {C : Addr} : PySem.W.kitOne K (.ref C) (.ref C) = some true := by
  unfold PySem.W.kitOne
  rw [if_pos (beq_self_eq_true _)]
theorem kit_out {K : PySem.W.Frag} {a : String} {C : Addr} {b : Bool} (hm : PySem.W.kitMeta a = true) (h3 : PySem.W.subIn K (.ref C) (.type a) = some b) : PySem.W.kitOne K (.ref C) (.type a) = some b := by
  have hne : (Value.ref C == Value.type a) = false := Bool.eq_false_iff.mpr fun q => by cases beq_iff_eq.mp q
  unfold PySem.W.kitOne PySem.W.kitCls
  rw [hne, if_neg Bool.false_ne_true]
  dsimp only
  rw [if_pos hm]
  exact h3
theorem isT_mk (X : K.In h) (G : h.Ns mainGlobals mg) (a : PySem.W.nsIn K mainGlobals c = some (some (.ref C))) (T : ClsT K mg c) (c1 : PySem.W.isClsIn K C = true) (c2 : PySem.W.typeIn K (.ref C) = some (.type "type"))
    (h1 : PySem.W.subIn K (.type "NoneType") (.ref C) = some false) (h2 : PySem.W.subIn K (.type "bool") (.ref C) = some false) (h3 : PySem.W.subIn K (.type "int") (.ref C) = some false) (h4 : PySem.W.subIn K (.type "str") (.ref C) = some false)
    (h5 : PySem.W.subIn K (.type "tuple") (.ref C) = some false) (h6 : PySem.W.subIn K (.type "list") (.ref C) = some false) (h7 : PySem.W.subIn K (.type "dict") (.ref C) = some false)
    (g2 : PySem.W.subIn K (.ref C) (.type "bool") = some false) (g3 : PySem.W.subIn K (.ref C) (.type "int") = some false) (g4 : PySem.W.subIn K (.ref C) (.type "str") = some false)
    (g5 : PySem.W.subIn K (.ref C) (.type "tuple") = some false) (g6 : PySem.W.subIn K (.ref C) (.type "list") = some false) (g7 : PySem.W.subIn K (.ref C) (.type "dict") = some false)
    (k1 : PySem.W.findIn K (.ref C) "__class__" = some (some (.builtin "object.__class__"))) (k2 : PySem.W.specialIn K (.builtin "object.__class__") "__get__" = some (some (.builtin "getset_descriptor.__get__"))) (k3 : PySem.W.takesIn K (.builtin "object.__class__") = some true) (k4 : PySem.W.mroIn K C (.type "object") = some true) : IsT K mg c := by
  refine ⟨C, PySem.W.mg_of X G a, fun a m => ?_, kit_self, fun a m => ?_, T.at (PySem.W.mg_of X G a), k1, k2, k3, k4⟩
  · refine kit_own c1 c2 ?_
    simp only [tys7, List.mem_cons, List.not_mem_nil, or_false] at m
    rcases m with rfl | rfl | rfl | rfl | rfl | rfl | rfl <;> assumption
  · have hm : ∀ b ∈ tys6, PySem.W.kitMeta b = true := by decide +kernel
    refine kit_out (hm a m) ?_
    simp only [tys6, List.mem_cons, List.not_mem_nil, or_false] at m
    rcases m with rfl | rfl | rfl | rfl | rfl | rfl <;> assumption
section
variable {oc : Value} {od an : Option Addr} {sl : Array (Option Value)} {kV dc pm cd ct : Value}
theorem mtx_mk (X : K.In h) (G : h.Ns mainGlobals mg) (a : PySem.W.nsIn K mainGlobals c = some (some (.ref C))) (T : ClsT K mg c) (at_ : PySem.W.findIn K (.ref C) m = some (some (.ref g))) (fn : PySem.W.isFn K (.ref g) = true)
    (l : K.lookup g = some ⟨oc, od, .func (PySem.W.fnOf m q (defArgs st) (defBody st) (defScope st) .none kV dc pm an cd ct), sl⟩) (cod : PySem.W.codeIn K cd q = true) (k : PySem.W.keepIn K (.ref g) = true)
    (hb : ∀ (kV doc pm : Value) (an : Option Addr) (cdv ct : Value) (us : List Value), us.length = ps.length → bindArgs (PySem.W.fnOf m q (defArgs st) (defBody st) (defScope st) .none kV doc pm an cdv ct) ⟨us, []⟩ = pure (ps.zip us)) : MTx K mg c m q st ps :=
  let F := fun_mk (st := st) l cod k
  ⟨C, g, _, PySem.W.mg_of X G a, T.at (PySem.W.mg_of X G a), ⟨at_, fn, k⟩, F, F.binds hb⟩
theorem mkx_mk (X : K.In h) (G : h.Ns mainGlobals mg) (a : PySem.W.nsIn K mainGlobals c = some (some (.ref C))) (T : ClsT K mg c) (mk : PySem.W.makesIn K C = true) (at_ : PySem.W.findIn K (.ref C) "__init__" = some (some (.ref g))) (fn : PySem.W.isFn K (.ref g) = true) (kc : PySem.W.keepIn K (.ref C) = true)
    (l : K.lookup g = some ⟨oc, od, .func (PySem.W.fnOf "__init__" q (defArgs st) (defBody st) (defScope st) .none kV dc pm an cd ct), sl⟩) (cod : PySem.W.codeIn K cd q = true) (k : PySem.W.keepIn K (.ref g) = true)
    (hb : ∀ (kV doc pm : Value) (an : Option Addr) (cdv ct : Value) (us : List Value), us.length = ps.length → bindArgs (PySem.W.fnOf "__init__" q (defArgs st) (defBody st) (defScope st) .none kV doc pm an cdv ct) ⟨us, []⟩ = pure (ps.zip us))
    (hf : ∀ n ∈ ns, FldT K mg c n) : MkTx K mg c q st ps ns :=
  let F := fun_mk (st := st) l cod k
  ⟨C, g, _, PySem.W.mg_of X G a, T.at (PySem.W.mg_of X G a), ⟨mk, at_, fn, kc⟩, F, F.binds hb, fun n m => by
    obtain ⟨D, h1, h2, h3⟩ := hf n m
    rw [PySem.W.mg_of X G a] at h1; cases h1
    exact h3⟩
theorem stx_mk {p : Addr} {mc : Value} {rest : List Value} (X : K.In h) (G : h.Ns mainGlobals mg) (a : PySem.W.nsIn K mainGlobals c = some (some (.ref C))) (ty : PySem.W.typeIn K (.ref C) = some mc) (rd : PySem.W.readsIn K C mc = true) (ga : PySem.W.specialIn K (.ref C) "__getattribute__" = some (some (.builtin "type.__getattribute__")))
    (e : PySem.W.findCls K (.ref C) mc m = some (.get (.builtin "staticmethod.__get__") (.ref p) .none (.ref C))) (hp : PySem.W.recIn K p "staticmethod" = some (.ref g :: rest))
    (l : K.lookup g = some ⟨oc, od, .func (PySem.W.fnOf m q (defArgs st) (defBody st) (defScope st) .none kV dc pm an cd ct), sl⟩) (cod : PySem.W.codeIn K cd q = true) (k : PySem.W.keepIn K (.ref g) = true)
    (hb : ∀ (kV doc pm : Value) (an : Option Addr) (cdv ct : Value) (us : List Value), us.length = ps.length → bindArgs (PySem.W.fnOf m q (defArgs st) (defBody st) (defScope st) .none kV doc pm an cdv ct) ⟨us, []⟩ = pure (ps.zip us)) : StTx K mg c m q st ps :=
  let F := fun_mk (st := st) l cod k
  ⟨C, g, _, PySem.W.mg_of X G a, ⟨mc, p, rest, ⟨rd, ga⟩, e, hp⟩, F, F.binds hb⟩
theorem startx_mk {x pv : Str} (X : K.In h) (G : h.Ns mainGlobals mg) (a : PySem.W.nsIn K mainGlobals x = some (some (.ref g))) (k : PySem.W.keepIn K (.ref g) = true)
    (l : K.lookup g = some ⟨oc, od, .func (PySem.W.fnOf x x (defArgs st) (defBody st) (defScope st) .none kV dc pm an cd ct), sl⟩) (cod : PySem.W.codeIn K cd x = true)
    (hb : ∀ us rest : List Value, us.length = ps.length → bindArgs (PySem.W.fnOf x x (defArgs st) (defBody st) (defScope st) .none kV dc pm an cd ct) ⟨us ++ rest, []⟩ = (newTuple rest >>= fun t => pure (ps.zip us ++ [(pv, t)]))) : StarTx K mg x st ps pv :=
  ⟨g, oc, od, kV, dc, pm, an, cd, ct, sl, PySem.W.mg_of X G a, k, l, cod, hb⟩
end
theorem kdtab_mk {x : Str} {w : World} {p : Addr} {es : Array DictEntry} {n : Nat} {tab : List (Str × Str)} (X : K.In h) (G : h.Ns mainGlobals mg) (a : PySem.W.nsIn K mainGlobals x = some (some (.ref p))) (l : K.lookup p = some ⟨.type "dict", none, .dict es n, #[]⟩) (k : PySem.W.KeysLit w.params es.toList)
    (ht : ∀ kv ∈ tab, ∃ t, PySem.W.nsIn K p kv.1 = some (some (.str kv.2 t))) : KDTab K mg w x tab := by
  refine ⟨p, PySem.W.mg_of X G a, fun k' v e => ?_⟩
  have mem : (k', v) ∈ tab := by
    clear ht
    induction tab with
    | nil => cases e
    | cons q r ih =>
      obtain ⟨k0, v0⟩ := q
      rw [List.lookup_cons] at e
      cases hk : k' == k0 with
      | true => rw [hk] at e; cases e; rw [eq_of_beq hk]; exact List.mem_cons_self
      | false => rw [hk] at e; exact List.mem_cons_of_mem _ (ih e)
  obtain ⟨t, h1⟩ := ht _ mem
  exact ⟨es, n, _, l, k, h1, ⟨t, rfl⟩⟩
end
/-! ### no operator at all -/
theorem om_no {X : Cx} {E : EK} {f : Value → Value → Sem Value} : OpM X E f (fun _ _ _ => .bad) := by
  intro pins s σ H x y v u Q I rx ry ⟨ρ, S, w1, w2, rep, r1, r2, o⟩
  exact o.elim
end RL
end
section
set_option maxRecDepth 100000
set_option maxHeartbeats 4000000
/-! ==, !=, str(x), repr(x) of own objects -/
namespace PySem.W
open PySem PySem.Spec PySem.Calls PyProof.Rows
end PySem.W
namespace RL
open PySem PySem.Spec L2 OrdX
open PyProof.Rows hiding St
variable [Lams]
/-- str(x), repr(x) -/
noncomputable def gOwnS (c : Str) (g : Fn) (w : W) (S : Store) : Res W := if isIns c w = true then (g [w] S).bind fun v S' => match v with
    | .str z => .ok (.str z) S'
    | _ => .bad else .bad
section
variable {X : Cx} {E : EK} {c m q : Str} {k k' : Nat} {st : Stmt} {ps : List Str} {g : Fn} {base : W → W → Store → Res W}
theorem run_at {A : Around} {CX : CXT} {f : Addr} {fd : FuncData} {sp : Sp} {pins : List (Addr × Obj)} {σ : L2.St} {H : Hp} {s : Shared} {Q : VK} {us : List Value} {vs : List V} (hA : A.frames = X.A.frames) (F : FnOk X.prog X.w X.K X.mg X.base CX k f fd ps sp) (hr : Room k A) (hb : Binds X.K fd ps []) (hx : Passes CX X E)
    (I : Inv X pins σ H s) (r : Vals vs us) (h : sp vs H Q E) : wpAny (model X.prog X.w) A (call (.ref f) us) (EP X pins σ Q) X.xe s := by
  have I0 : Env0 X.prog X.w X.K X.mg X.base A X.stack s H := { I.env0 with frames := hA.trans I.env0.frames }
  have n : (us ++ []).length = ps.length := by rw [List.append_nil, ← r.length]; exact F.len _ _ _ _ h
  have b := hb s us I.kIn n
  rw [List.append_nil] at b
  refine wpAny_call (codeAny_mono (F.run A X.stack s H ⟨us, []⟩ us vs Q E hr I0 b r h) fun r s' z => ?_)
  cases r with
  | error e => exact hx pins σ H s e s' I z
  | ok fl => cases fl with
    | ret u => exact I.after z
    | _ => exact z.elim
theorem ownS {nm : Str} (F : MeE X.prog X.w X.K X.mg X.base k c nm q st ps g) (tk : Takes X (fun c d _ H => E c d H)) (hn : ps.length = 1) {pins : List (Addr × Obj)} {s : Shared} {σ : L2.St} {H : Hp} {x : V} {us : List Value} {Q : VK} {ρ : RT} {S : Store} {w : W} (I : Inv X pins σ H s) (r : Vals [x] us) (rep : RepS X.K X.mg ρ H S) (rw' : RW X.K X.mg ρ H w x) (o : Out X.K X.mg (RW X.K X.mg) E ρ H (gOwnS c g w S) Q) :
    ∃ C f a ox od, us = [Value.ref a] ∧ PySem.W.InstAt s.heap a ox C od ∧ X.mg c = some (.ref C) ∧ Meth X.K C nm f ∧ ∀ (A : Around), A.frames = X.A.frames → Room k A → wpAny (model X.prog X.w) A (call (.ref f) [.ref a]) (PySem.W.StrBack (EP X pins σ Q)) X.xe s := by
  obtain ⟨C, f, fd, a1, a2, a3, a4, a5, a6⟩ := F
  rw [hn] at a6
  unfold gOwnS at o
  split at o
  · rename_i h1
    obtain ⟨a, dx, fs, rfl, ha⟩ := ins_of a1 rw' h1
    obtain ⟨ox, od, J, _⟩ := inst_of I ha
    have eu := Vals.ref1 r
    subst eu
    refine ⟨C, f, a, ox, od, rfl, J, a1, a3, fun A hA rA => ?_⟩
    refine thn (run_at (A := A) (Q := fun x H' => ∃ z, x = .str z ∧ Q (.str z) H') hA (us := [.ref a]) (vs := [.ref a]) a6 rA a5 (passM tk) I r ⟨ρ, S, [w], rep, .cons rw' .nil, rfl, ?_⟩) ?_
    · refine Out.bind o fun ρ1 H1 z b S1 ex rep1 rz o1 => ?_
      cases z with
      | str t =>
        cases rz
        exact ⟨t, rfl, Out.here o1 rep1 (.str _)⟩
      | _ => exact o1.elim
    · rintro v s' ⟨x, H1, I1, rv, b, rfl, z⟩
      obtain ⟨t, rfl⟩ := rv
      exact ⟨.str b, H1, I1, ⟨t, rfl⟩, z⟩
  · exact o.elim
end
end RL
end
section
set_option maxRecDepth 100000
set_option maxHeartbeats 4000000
/-! sets of texts made of lists, sorted -/
namespace RT
open PySem PySem.Spec PyProof.Rows L2 PySem.Froz OrdX
/-- at a stands a set whose members are the texts L -/
structure TS (P : Program) (w : World) (h : Heap) (a : Addr) (L : List Str) : Prop where
  nd : L.Nodup
  at_ : ∃ D : SD, h.get? a = some (sObj "set" D) ∧ TxOk P w D L ∧ Ris D.2.2.place.toList ∧ (w.params.followText "set-order" = true ∨ D.2.2.led = true)
section
variable {P : Program} {w : World} {A : Around} {E : Value → Shared → Prop} {s : Shared} {a : Addr} {L : List Str}
theorem TS.new {h : Heap} (e : h.get? a = some (RS.emp w)) : TS P w h a [] := by
  refine ⟨List.nodup_nil, ⟨(#[], 0, .fresh 0 0 (!w.params.followText "set-order")), e, TxOk.nil rfl, List.Pairwise.nil, ?_⟩⟩
  show _ ∨ (!w.params.followText "set-order") = true
  cases w.params.followText "set-order" with
  | true => exact .inl rfl
  | false => exact .inr rfl
theorem addTx_ris {D : SD} (h : Int) (v : Value) (r : Ris D.2.2.place.toList) : Ris (addTx h v D).2.2.place.toList := by
  have r1 := layNew_ris D.2.2 D.1 h v r
  unfold addTx tailTx
  have r2 : Ris (if (layNew D.2.2 D.1 h v).2.1.plain = true then { (layNew D.2.2 D.1 h v).2.1 with plain := false } else (layNew D.2.2 D.1 h v).2.1).place.toList := by
    cases (layNew D.2.2 D.1 h v).2.1.plain <;> exact r1
  revert r2
  generalize (if (layNew D.2.2 D.1 h v).2.1.plain = true then { (layNew D.2.2 D.1 h v).2.1 with plain := false } else (layNew D.2.2 D.1 h v).2.1) = t2
  intro r2
  cases (!(layNew D.2.2 D.1 h v).2.2.1 && t2.tooFull) with
  | true => exact relayAll_ris _ _ _
  | false => exact r2
theorem addTx_led {D : SD} (h : Int) (v : Value) (r : D.2.2.led = true) : (addTx h v D).2.2.led = true := by
  have r1 : (layNew D.2.2 D.1 h v).2.1.led = true := (layNew_led D.2.2 D.1 h v).trans r
  unfold addTx tailTx
  have r2 : (if (layNew D.2.2 D.1 h v).2.1.plain = true then { (layNew D.2.2 D.1 h v).2.1 with plain := false } else (layNew D.2.2 D.1 h v).2.1).led = true := by
    cases (layNew D.2.2 D.1 h v).2.1.plain <;> exact r1
  revert r2
  generalize (if (layNew D.2.2 D.1 h v).2.1.plain = true then { (layNew D.2.2 D.1 h v).2.1 with plain := false } else (layNew D.2.2 D.1 h v).2.1) = t2
  intro r2
  cases (!(layNew D.2.2 D.1 h v).2.2.1 && t2.tooFull) with
  | true => exact (relayAll_led _ _ _).trans r2
  | false => exact r2
/-- one more text goes in -/
theorem put {k : Str} {u : Tok} {Q : Bool → Shared → Prop} (T : TS P w s.heap a L) (room : L.length + 1 < scanBound)
    (h : ∀ g L' b, TS P w g a L' → (∀ z, z ∈ L' ↔ z = k ∨ z ∈ L) → L'.length ≤ L.length + 1 → (∀ b, b ≠ a → g.get? b = s.heap.get? b) → Q b { s with heap := g }) :
    wpAny (model P w) A (setAddHashed a (.str k u) (hashStr w k)) Q E s := by
  obtain ⟨D, h0, F, r, l⟩ := T.at_
  by_cases hk : k ∈ L
  · have stay := h s.heap L false T (fun z => ⟨.inr, fun q => q.elim (fun e => e ▸ hk) id⟩) (Nat.le_succ _) fun _ _ => rfl
    obtain ⟨e, he, q⟩ := (F.mem k).mp hk
    obtain ⟨es, ep, t⟩ := D
    have fits : t.fits es.size = true := F.fit
    have small : es.size < scanBound := by have := F.sz; dsimp only at this; omega
    unfold setAddHashed setAddHashedIn
    refine wpAny_holding (wpAny_bind (wpAny_setState_of h0 rfl fits ?_))
    dsimp only
    rw [byScan_of rfl small F.el]
    unfold setAddByScan
    refine wpAny_bind (wpAny_bind (wpAny_rule (wpAny_bind (wpAny_setScan_of (knd := strKind P w) (is_str k u) h0 rfl fits F.el ?_))))
    cases hf : List.findIdx? (fun e => (strKind P w).is k e.2) es.toList with
    | none =>
      have no := List.findIdx?_eq_none_iff.mp hf e he
      rw [q] at no
      cases no
    | some j => exact wpAny_pure (wpAny_pure stay)
  · refine add_x h0 F hk room ?_
    refine h _ (k :: L) true ⟨List.nodup_cons.mpr ⟨hk, T.nd⟩, _, get_upd _ h0 rfl, add_ok u F, addTx_ris _ _ r, l.imp id fun z => addTx_led _ _ z⟩ (fun z => List.mem_cons) (Nat.le_refl _) fun b hb => ?_
    exact Heap.get?_update_ne _ _ _ _ hb
end
end RT
namespace RL
open PySem PySem.Spec L2 OrdX
open PyProof.Rows hiding St
end RL
end
section
set_option maxRecDepth 100000
set_option maxHeartbeats 4000000
/-! static methods by keyword, a list of the store made by + -/
namespace RL
open PySem PySem.Spec L2 OrdX
open PyProof.Rows hiding St
end RL
end
section
set_option maxRecDepth 100000
set_option maxHeartbeats 4000000
/-! own exceptions: they are made by an __init__ that says super().__init__(..) and keeps its arguments -/
namespace REX
open PySem PySem.Spec PySem.Calls PyProof.Rows PySem.W
open Builtin Builtin.ObjectAttr
section
variable {prog : Program} {w : World} {M : Model} {A : Around} {E : Value → Shared → Prop} {h : Heap} {g : Array GenState} {d : Drawn} {t : Nat} {os : OsState} {K : Frag} {C : Addr} {B newId initId : String} {bmB : List Value}
/-- ValueError.__init__, bound to the new exception at e, is called -/
theorem bound_call {u e t0 : Addr} {rest : List Value} {Q : Value → Shared → Prop} (X : K.In h) (q : excInitIn K C bmB newId = true) (FB : ExcBaseFacts B newId initId bmB) (he : h.get? e = some (excObj C t0 none .none)) (hu : h.get? u = some (kxs_mw initId e)) (hz : rest.length ≤ sizeLine)
    (k : ∀ h' t1, (∀ b o, b ≠ e → h.get? b = some o → h'.get? b = some o) → h'.get? e = some (excObj C t1 none .none) → Q .none ⟨h', g, d, t, os⟩) : wpAny (model prog w) A (call (.ref u) rest) Q E ⟨h, g, d, t, os⟩ := by
  obtain ⟨nm, N', qn, bs, bm, hdct, sn, sub, ab, col, dd, k0, k1, k2, k3, k5, hC, _⟩ := excInit_of X q
  refine wpAny_call (codeAny_of_tree ?_)
  show wpAny _ A.in1 (callAny (.ref u) ⟨rest, []⟩) _ _ _
  unfold callAny
  refine wpAny_bind (wpAny_load hu ?_)
  refine KFB.if_so rfl ?_
  refine wpAny_bind (check_bound_init FB.toExcCallFacts hC he rfl (wpAny_bind (wpAny_pure (wpAny_pure ⟨plainId_quiet FB.init.plain _, codeAny_builtin FB.initEntry ?_⟩))))
  exact exc_init_tree (cls := .ref C) (t0 := t0) (dv := none) (c2 := .none) (c3 := .none) (b4 := .bool false) he hz fun h' keep at' _ => k h' _ keep at'
/-- a = v on an exception without a dict -/
theorem set_first {x : Addr} {t0 : Addr} {name : Str} {v : Value} {cd : ClassData} {Q : Unit → Shared → Prop} (SF : StoreFacts B bmB "object.__setattr__" "object") (X : K.In h) (hx : h.get? x = some (excObj C t0 none .none)) (ov : excOver K C bmB = true) (tk : takerIn K C name = some none)
    (hc : clsIn K C = some cd) (hd : cd.hasDict = true) (sa : findIn K (.ref C) "__setattr__" = some (some (.builtin "object.__setattr__")))
    (k : ∀ h' tk' dx, (∀ b o, b ≠ x → h.get? b = some o → h'.get? b = some o) → h.objs.size ≤ dx → dx ≠ x → h'.get? x = some (excObj C t0 (some dx) .none) → h'.Ns1 dx (fun y => if y = name then some v else none) → Q () ⟨h', g, d, tk', os⟩) :
    wpAny (model prog w) A (setAttr (.ref x) name v) Q E ⟨h, g, d, t, os⟩ := by
  have I : InstAt h x (excObj C t0 none .none) C none := ⟨hx, rfl, rfl, trivial⟩
  have far : x ≠ h.objs.size := Nat.ne_of_lt (Heap.lt_size hx)
  refine set_plain X I sa (osa_openX SF X I ov tk fun b => ?_)
  have L : Looks (model prog w) h (classData C) cd := looks_clsIn X hc
  obtain ⟨nm, bs, mro, ns, qn, hdd, sn, sb, ab, col, del⟩ := cd
  dsimp only at hd
  subst hd
  dsimp only
  unfold storeInOwnDict ownDictForStores
  repeat (first | with_reducible refine PySem.HandSPX.store_in_new ?_ ?_ | with_reducible refine wpAny_loadPart_at hx ?_ | with_reducible refine L.at ?_ | wp_step)
  · exact ⟨_, #[], _, (Heap.get?_update_ne _ _ _ _ far.symm).trans (Heap.get?_push_at rfl rfl), rfl, fun e he => absurd he (by simp), fun _ => rfl⟩
  · intro h' tk' hn sb'
    refine k h' tk' h.objs.size (fun b o hb ho => ?_) (Nat.le_refl _) far.symm ?_ hn
    · exact (sb'.2 b (Nat.ne_of_lt (Heap.lt_size ho))).trans ((Heap.get?_update_ne _ _ _ _ hb).trans (Heap.get?_push_of_some _ ho))
    · exact (sb'.2 x far).trans (Heap.get?_update_self _ (Heap.get?_push_of_some _ hx) rfl)
/-- .. on one that has a dict -/
theorem set_next {x dx : Addr} {t0 : Addr} {name : Str} {v : Value} {cd : ClassData} {m0 : Str → Option Value} {nl : List Str} {Q : Unit → Shared → Prop} (SF : StoreFacts B bmB "object.__setattr__" "object") (X : K.In h) (hx : h.get? x = some (excObj C t0 (some dx) .none)) (hn : h.Ns1 dx m0) (hw : Within m0 nl) (hz : nl.length ≤ 1000)
    (ov : excOver K C bmB = true) (tk : takerIn K C name = some none) (hc : clsIn K C = some cd) (hd : cd.hasDict = true) (sa : findIn K (.ref C) "__setattr__" = some (some (.builtin "object.__setattr__")))
    (k : ∀ h' tk', (∀ b o, b ≠ dx → h.get? b = some o → h'.get? b = some o) → h'.Ns1 dx (fun y => if y = name then some v else m0 y) → Q () ⟨h', g, d, tk', os⟩) :
    wpAny (model prog w) A (setAttr (.ref x) name v) Q E ⟨h, g, d, t, os⟩ := by
  obtain ⟨oD, _, _, hoD, _, _⟩ := hn.count hw
  have I : InstAt h x (excObj C t0 (some dx) .none) C (some oD) := ⟨hx, rfl, rfl, hoD⟩
  refine set_plain X I sa (osa_openX SF X I ov tk fun b => ?_)
  have L : Looks (model prog w) h (classData C) cd := looks_clsIn X hc
  obtain ⟨nm, bs, mro, ns, qn, hdd, sn, sb, ab, col, del⟩ := cd
  dsimp only at hd
  subst hd
  dsimp only
  unfold storeInOwnDict ownDictForStores
  repeat (first | with_reducible refine PySem.OEX.store_in_old hn hw hz ?_ | with_reducible refine wpAny_loadPart_at hx ?_ | with_reducible refine L.at ?_ | wp_step)
  intro h' tk' hn' sb'
  exact k h' tk' (fun b o hb ho => (sb'.2 b hb).trans ho) hn'
/-- self.f = literal | parameter, in a row -/
inductive Asn (self : Str) : List Stmt → List (Str × (Str ⊕ Str)) → Prop where
  | nil : Asn self [] []
  | lit {f x : Str} {j : Nat} {p1 p2 p3 p4 : Pos} {r : List Stmt} {l : List (Str × (Str ⊕ Str))} (h : Asn self r l) : Asn self (.Assign [.Attribute (.Name self p1) f p2] (.Constant (.str x) j p3) p4 :: r) ((f, .inl x) :: l)
  | par {f y : Str} {p1 p2 p3 p4 : Pos} {r : List Stmt} {l : List (Str × (Str ⊕ Str))} (h : Asn self r l) : Asn self (.Assign [.Attribute (.Name self p1) f p2] (.Name y p3) p4 :: r) ((f, .inr y) :: l)
/-- what the fields are behind the row -/
inductive Got (look : Str → Option Value) : List (Str × (Str ⊕ Str)) → List (Str × Value) → List (Str × Value) → Prop where
  | nil {acc} : Got look [] acc acc
  | lit {f x : Str} {l acc fs} (t : Tok) (h : Got look l ((f, .str x t) :: acc) fs) : Got look ((f, .inl x) :: l) acc fs
  | par {f y : Str} {v : Value} {l acc fs} (e : look y = some v) (h : Got look l ((f, v) :: acc) fs) : Got look ((f, .inr y) :: l) acc fs
theorem Got.len {look : Str → Option Value} {l : List (Str × (Str ⊕ Str))} {acc fs : List (Str × Value)} (h : Got look l acc fs) : fs.length = acc.length + l.length := by
  induction h with
  | nil => rfl
  | lit t _ ih => rw [ih]; simp; omega
  | par e _ ih => rw [ih]; simp; omega
theorem lookup_cons (f : Str) (v : Value) (acc : List (Str × Value)) : (fun y => ((f, v) :: acc).lookup y) = fun y => if y = f then some v else acc.lookup y := by
  funext y
  by_cases e : y = f
  · subst e; simp [List.lookup]
  · have : (y == f) = false := by simpa using e
    rw [if_neg e]; simp [List.lookup, this]
theorem within_lookup : ∀ acc : List (Str × Value), Within (fun y => acc.lookup y) (acc.map (·.1))
  | [], y, h => absurd rfl h
  | (f, v) :: r, y, h => by
    by_cases e : y = f
    · rw [e]; exact List.mem_cons_self
    · have : (y == f) = false := by simpa using e
      exact List.mem_cons_of_mem _ (within_lookup r y (by simpa [List.lookup, this] using h))
structure XCls (K : Frag) (C : Addr) (bmB : List Value) : Prop where
  over : excOver K C bmB = true
  sa : findIn K (.ref C) "__setattr__" = some (some (.builtin "object.__setattr__"))
  cd : ∃ cd, clsIn K C = some cd ∧ cd.hasDict = true
/-- how it stands so far: no field as yet, or a dict of them -/
noncomputable def Sofar (h : Heap) (a C L : Addr) (lo : Nat) (acc : List (Str × Value)) : Prop := ∃ t0, (acc = [] ∧ h.get? a = some (excObj C t0 none .none)) ∨ ∃ dx, lo ≤ dx ∧ dx ≠ a ∧ dx ≠ L ∧ h.get? a = some (excObj C t0 (some dx) .none) ∧ h.Ns1 dx fun y => acc.lookup y
theorem Sofar.size {h : Heap} {a L : Addr} {lo : Nat} {acc : List (Str × Value)} (s : Sofar h a C L lo acc) : a < h.objs.size := by
  obtain ⟨t0, ⟨_, e⟩ | ⟨dx, _, _, _, e, _⟩⟩ := s
  · exact Heap.lt_size e
  · exact Heap.lt_size e
theorem ns_at {h h' : Heap} {L : Addr} {m : Str → Option Value} (n : h.Ns L m) (k : ∀ o, h.get? L = some o → h'.get? L = some o) : h'.Ns L m := by
  obtain ⟨o, es, ep, ho, r⟩ := n
  exact ⟨o, es, ep, k o ho, r⟩
theorem ns_lt {h : Heap} {L : Addr} {m : Str → Option Value} (n : h.Ns L m) : L < h.objs.size := by
  obtain ⟨o, es, ep, ho, r⟩ := n
  exact Heap.lt_size ho
theorem assigns {self : Str} {env : Env} {a : Addr} {m : Str → Option Value} {h₀ : Heap} {Q : Flow → Shared → Prop} (X₀ : K.In h₀) (na : h₀.get? a = none) (lo : h₀.objs.size ≤ a) (XC : XCls K C bmB) (SF : StoreFacts B bmB "object.__setattr__" "object")
    (hk : env.scope.kind = .function) (hs : env.kindOf self = some .local) (hself : m self = some (.ref a)) (hL : env.locals ≠ a) (hdb : (self == ("__debug__" : Str)) = false) :
    ∀ {sts : List Stmt} {l : List (Str × (Str ⊕ Str))}, Asn self sts l → ∀ {acc : List (Str × Value)} {h : Heap} {t : Nat}, (∀ b o, h₀.get? b = some o → h.get? b = some o) → h.Ns env.locals m → Sofar h a C env.locals h₀.objs.size acc → acc.length + l.length ≤ 900 →
      (∀ q ∈ l, takerIn K C q.1 = some none) → (∀ q ∈ l, ∀ y, q.2 = .inr y → env.kindOf y = some .local ∧ (∃ v, m y = some v) ∧ (y == ("__debug__" : Str)) = false) →
      (∀ h' tk fs, (∀ b o, h₀.get? b = some o → h'.get? b = some o) → Got m l acc fs → Sofar h' a C env.locals h₀.objs.size fs → Q .next ⟨h', g, d, tk, os⟩) → wpAny (model prog w) A (execs sts env) Q E ⟨h, g, d, t, os⟩ := by
  obtain ⟨cd, hcd, hdict⟩ := XC.cd
  intro sts l asn
  induction asn with
  | nil => exact fun k n so _ _ _ fin => wpAny_execs_nil (fin _ _ _ k .nil so)
  | @lit f x j p1 p2 p3 p4 r l _ ih =>
    intro acc h t k n so z htk hpar fin
    refine wpAny_execs_cons (plainObj_wpAny_Assign_Attribute (Calls.Constant_str (wpAny_Name (wpAny_loadName_local hk hs n hself ?_) hdb)) (by rfl))
    have X := X₀.keeps k
    have sz := so.size
    have nl := ns_lt n
    obtain ⟨t0, ⟨rfl, e⟩ | ⟨dx, d1, d2, d3, e, ens⟩⟩ := so
    · refine set_first SF X e XC.over (htk _ List.mem_cons_self) hcd hdict XC.sa fun h' tk' dx k' c1 c2 c3 c4 => ?_
      refine ih (acc := [(f, .str x t)]) (fun b o eb => k' b o (fun z => by rw [z, na] at eb; cases eb) (k b o eb)) (ns_at n fun o eo => k' _ o hL eo) ⟨t0, .inr ⟨dx, Nat.le_trans (Nat.le_of_lt (Nat.lt_of_le_of_lt lo sz)) c1, c2, Nat.ne_of_gt (Nat.lt_of_lt_of_le nl c1), c3, by rw [lookup_cons]; exact c4⟩⟩ (by simp at z ⊢; omega) (fun q m => htk q (List.mem_cons_of_mem _ m)) (fun q m => hpar q (List.mem_cons_of_mem _ m)) fun h'' tk'' fs a1 a2 a3 => fin h'' tk'' fs a1 (.lit t a2) a3
    · refine set_next SF X e ens (within_lookup acc) (by rw [List.length_map]; omega) XC.over (htk _ List.mem_cons_self) hcd hdict XC.sa fun h' tk' k' c4 => ?_
      have far : ∀ b o, h₀.get? b = some o → b ≠ dx := fun b o eb => Nat.ne_of_lt (Nat.lt_of_lt_of_le (Heap.lt_size eb) d1)
      refine ih (acc := (f, .str x t) :: acc) (fun b o eb => k' b o (far b o eb) (k b o eb)) (ns_at n fun o eo => k' _ o (Ne.symm d3) eo) ⟨t0, .inr ⟨dx, d1, d2, d3, k' a _ (Ne.symm d2) e, by rw [lookup_cons]; exact c4⟩⟩ (by simp at z ⊢; omega) (fun q m => htk q (List.mem_cons_of_mem _ m)) (fun q m => hpar q (List.mem_cons_of_mem _ m)) fun h'' tk'' fs a1 a2 a3 => fin h'' tk'' fs a1 (.lit t a2) a3
  | @par f y p1 p2 p3 p4 r l _ ih =>
    intro acc h t k n so z htk hpar fin
    obtain ⟨hy1, ⟨v, hy2⟩, hy3⟩ := hpar _ List.mem_cons_self y rfl
    refine wpAny_execs_cons (plainObj_wpAny_Assign_Attribute (wpAny_Name (wpAny_loadName_local hk hy1 n hy2 (wpAny_Name (wpAny_loadName_local hk hs n hself ?_) hdb)) hy3) (by rfl))
    have X := X₀.keeps k
    have sz := so.size
    have nl := ns_lt n
    obtain ⟨t0, ⟨rfl, e⟩ | ⟨dx, d1, d2, d3, e, ens⟩⟩ := so
    · refine set_first SF X e XC.over (htk _ List.mem_cons_self) hcd hdict XC.sa fun h' tk' dx k' c1 c2 c3 c4 => ?_
      refine ih (acc := [(f, v)]) (fun b o eb => k' b o (fun z => by rw [z, na] at eb; cases eb) (k b o eb)) (ns_at n fun o eo => k' _ o hL eo) ⟨t0, .inr ⟨dx, Nat.le_trans (Nat.le_of_lt (Nat.lt_of_le_of_lt lo sz)) c1, c2, Nat.ne_of_gt (Nat.lt_of_lt_of_le nl c1), c3, by rw [lookup_cons]; exact c4⟩⟩ (by simp at z ⊢; omega) (fun q m => htk q (List.mem_cons_of_mem _ m)) (fun q m => hpar q (List.mem_cons_of_mem _ m)) fun h'' tk'' fs a1 a2 a3 => fin h'' tk'' fs a1 (.par hy2 a2) a3
    · refine set_next SF X e ens (within_lookup acc) (by rw [List.length_map]; omega) XC.over (htk _ List.mem_cons_self) hcd hdict XC.sa fun h' tk' k' c4 => ?_
      have far : ∀ b o, h₀.get? b = some o → b ≠ dx := fun b o eb => Nat.ne_of_lt (Nat.lt_of_lt_of_le (Heap.lt_size eb) d1)
      refine ih (acc := (f, v) :: acc) (fun b o eb => k' b o (far b o eb) (k b o eb)) (ns_at n fun o eo => k' _ o (Ne.symm d3) eo) ⟨t0, .inr ⟨dx, d1, d2, d3, k' a _ (Ne.symm d2) e, by rw [lookup_cons]; exact c4⟩⟩ (by simp at z ⊢; omega) (fun q m => htk q (List.mem_cons_of_mem _ m)) (fun q m => hpar q (List.mem_cons_of_mem _ m)) fun h'' tk'' fs a1 a2 a3 => fin h'' tk'' fs a1 (.par hy2 a2) a3
/-- the program bears this file's name, and no name super of its own -/
noncomputable def PrgOk (prog : Program) (fl : Str) : Prop := ((prog.main.file : Str) == fl) = true ∧ (prog.main.scope.names.lookup ("super" : Str)).isSome = false
/-- what the written part tells of a class and its __init__ (the def st, its literal x, its fields l) -/
structure XIn (K : Frag) (C f cda cc : Addr) (B newId initId : String) (bmB : List Value) (q slf : Str) (params : Arguments) (body : List Stmt) (scope : Scope) (ps : List Str) (l : List (Str × (Str ⊕ Str))) (fl : Str) : Prop where
  cls : XCls K C bmB
  ini : excInitIn K C bmB newId = true
  sup : ks_superIn K C C "__init__" = some (some (.builtin initId))
  sub : subIn K (.ref C) (.type B) = some true
  any : nsIn K cStatics "thirdparty.any" = some none
  own : mroIn K C (.ref C) = some true
  fn : ∃ oc od kV doc pm an ct osl, K.lookup f = some ⟨oc, od, .func (ksFn "__init__" q params body scope .none kV doc pm an (.ref cda) ct cc), osl⟩
  bd : ∀ (kV doc pm : Value) (an : Option Addr) (cd ct : Value) (cc : Addr) (us : List Value), us.length = ps.length → bindArgs (ksFn "__init__" q params body scope .none kV doc pm an cd ct cc) ⟨us, []⟩ = pure (ps.zip us)
  code : codeIn K (.ref cda) q = true
  file : ∃ ccl cdd vs ccs tf, K.lookup cda = some ⟨ccl, cdd, .fields vs, ccs⟩ ∧ vs[2]? = some (.str fl tf)
  cell : ∃ cl cld csl, K.lookup cc = some ⟨cl, cld, .cell (some (.ref C)), csl⟩
  body : ∃ x j p0 p1 p2 p3 p4 p5 rest, body = .Expr (.Call (.Attribute (.Call (.Name "super" p0) [] [] p1) "__init__" p2) [.Constant (.str x) j p3] [] p4) p5 :: rest ∧ Asn slf rest l ∧
    ∀ env : Env, ∃ pl : Sem Bool, eval (.Call (.Attribute (.Call (.Name "super" p0) [] [] p1) "__init__" p2) [.Constant (.str x) j p3] [] p4) env = (do
      let ov ← attributeBase (.Call (.Name "super" p0) [] [] p1) "__init__" env (eval (.Call (.Name "super" p0) [] [] p1) env)
      standAt p2.atName
      let (f, first) ← holding [ov] (getMethod ov "__init__" pl)
      callWith p4 f first (backTo p4 (starEach [.Constant (.str x) j p3] env)) [])
  par : ∃ ar, (params.posonlyargs ++ params.args).head? = some ar ∧ ar.arg = slf
  ps0 : ∃ r, ps = slf :: r
  nd : ps.Nodup
  kind : scope.kind = .function
  co : scope.isCoroutine = false
  gen : scope.isGenerator = false
  nocell : ∀ y ∈ scope.names, y.2 ≠ .cell
  loc : ∀ y ∈ ps, scope.names.lookup y = some .local ∧ (y == ("__debug__" : Str)) = false
  sup2 : scope.names.lookup ("super" : Str) = some .globalImplicit
  cls2 : scope.names.lookup ("__class__" : Str) = some .free
  fld : ∀ z ∈ l, takerIn K C z.1 = some none ∧ ∀ y, z.2 = .inr y → y ∈ ps
  few : l.length ≤ 900
  psFew : ps.length ≤ 900
theorem zip_lookup : ∀ {ps : List Str} {us : List Value} {y : Str}, us.length = ps.length → y ∈ ps → ∃ v, (ps.zip us).lookup y = some v
  | [], _, _, _, m => nomatch m
  | p :: ps, [], _, h, _ => by simp at h
  | p :: ps, u :: us, y, h, m => by
    by_cases e : y = p
    · exact ⟨u, by subst e; simp [List.lookup]⟩
    · have : (y == p) = false := by simpa using e
      obtain ⟨v, hv⟩ := zip_lookup (ps := ps) (us := us) (y := y) (by simpa using h) ((List.mem_cons.mp m).resolve_left e)
      exact ⟨v, by simp [List.lookup, this, hv]⟩
theorem rev_lookup : ∀ (l : List (Str × Value)) (y : Str), (l.map (·.1)).Nodup → l.reverse.lookup y = l.lookup y
  | [], _, _ => rfl
  | (k, v) :: r, y, nd => by
    simp only [List.map_cons, List.nodup_cons] at nd
    rw [List.reverse_cons, List.lookup_append, rev_lookup r y nd.2]
    by_cases e : y = k
    · subst e
      have no : r.lookup y = none := by
        cases q : r.lookup y with
        | none => rfl
        | some v => exact absurd (List.mem_map.mpr ⟨_, PySem.mem_of_lookup q, rfl⟩) nd.1
      simp [no, List.lookup]
    · have : (y == k) = false := by simpa using e
      simp [List.lookup, this]
theorem init_run {f cda cc a t0 : Addr} {q slf : Str} {params : Arguments} {body : List Stmt} {scope : Scope} {ps : List Str} {l : List (Str × (Str ⊕ Str))} {us : List Value} {h₀ base : Heap} {mg : Str → Option Value} {R : Result → Shared → Prop}
    {fl : Str} (Y : XIn K C f cda cc B newId initId bmB q slf params body scope ps l fl) (hP : PrgOk prog fl) (KF : KxsFacts B initId) (FB : ExcBaseFacts B newId initId bmB) (SF : StoreFacts B bmB "object.__setattr__" "object") (hd : A.depth < recursionLimit)
    (Mo : L2.Mod K mg base) (hb : ∀ b o, base.get? b = some o → h₀.get? b = some o) (hm : mg "super" = none) (k0 : ∀ b o, h₀.get? b = some o → h.get? b = some o) (na : h₀.get? a = none) (lo : h₀.objs.size ≤ a) (he : h.get? a = some (excObj C t0 none .none)) (hl : (Value.ref a :: us).length = ps.length) {args : Args}
    (hbind : ∀ (kV doc pm : Value) (an : Option Addr) (cd ct : Value) (cc : Addr), bindArgs (ksFn "__init__" q params body scope .none kV doc pm an cd ct cc) args = pure (ps.zip (.ref a :: us)))
    (fin : ∀ h' tk fs dx t1, (∀ b o, h₀.get? b = some o → h'.get? b = some o) → Got (fun y => (ps.zip (.ref a :: us)).lookup y) l [] fs → h₀.objs.size ≤ dx → dx ≠ a → h'.get? a = some (excObj C t1 (some dx) .none) → (h'.Ns1 dx fun y => fs.lookup y) → l ≠ [] → R (.ok (.ret .none)) ⟨h', g, d, tk, os⟩) (hne : l ≠ []) :
    codeAny (model prog w) A (.call (.ref f) args) R ⟨h, g, d, t, os⟩ := by
  obtain ⟨oc, od, kV, doc, pm, an, ct, osl, lk⟩ := Y.fn
  obtain ⟨ccl, cdd, vs, ccs, tf, fl1, fl2⟩ := Y.file
  obtain ⟨cl, cld, csl, lcell⟩ := Y.cell
  obtain ⟨x, j, p0, p1, p2, p3, p4, p5, rest, hbody, asn, hcall⟩ := Y.body
  obtain ⟨ar, har, harS⟩ := Y.par
  obtain ⟨pr, hps⟩ := Y.ps0
  obtain ⟨mb, hmb1, hmb2⟩ := Mo.blt
  obtain ⟨cd, hcd, _⟩ := Y.cls.cd
  have X₀ : K.In h₀ := Mo.kin.keeps hb
  have ndz : ((ps.zip (.ref a :: us)).map (·.1)).Nodup := by
    rw [List.map_fst_zip (by omega)]; exact Y.nd
  have lookR : ∀ y, (ps.zip (Value.ref a :: us)).reverse.lookup y = (ps.zip (Value.ref a :: us)).lookup y := fun y => rev_lookup _ y ndz
  refine ks_codeAny_call_defAt (fd := ksFn "__init__" q params body scope .none kV doc pm an (.ref cda) ct cc) (body := body) (binds := ps.zip (.ref a :: us)) hd ((X₀.keeps k0) _ _ lk) rfl (Mo.nolimit.keeps fun b o e => k0 b o (hb b o e)) (codeRec_of (X₀.keeps k0) Y.code) rfl (.of_eq (hbind _ _ _ _ _ _ _)) Y.nocell
    (fun y m => (Y.loc y.1 (List.of_mem_zip m).1).1) (fun h₁ hns k1 => ?_) Y.co Y.gen Y.kind
  subst hbody
  have k01 : ∀ b o, h₀.get? b = some o → h₁.get? b = some o := fun b o e => k1 b o (k0 b o e)
  have X1 : K.In h₁ := X₀.keeps k01
  have eC : clsIn K C = some cd := hcd
  obtain ⟨oD, hD1, hD2⟩ : ∃ oD, h₁.get? C = some oD ∧ oD.data = .cls cd := by
    unfold clsIn at eC
    split at eC
    · rename_i c d' cd' sl ho
      cases eC
      exact ⟨_, X1 _ _ ho, rfl⟩
    · cases eC
  have he1 : h₁.get? a = some (excObj C t0 none .none) := k1 a _ he
  have aL : h.objs.size ≠ a := Nat.ne_of_gt (Heap.lt_size he)
  have aC : a ≠ C := fun z => by
    have : K.lookup C ≠ none := fun z => by unfold clsIn at eC; rw [z] at eC; cases eC
    cases q : K.lookup C with
    | none => exact this q
    | some o => rw [z, X₀ _ _ q] at na; cases na
  have I1 : InstAt h₁ a (excObj C t0 none .none) C none := ⟨he1, rfl, rfl, trivial⟩
  have ha : (ps.zip (Value.ref a :: us)).reverse.lookup slf = some (.ref a) := by
    rw [lookR, hps]
    simp [List.lookup]
  have locS : scope.names.lookup slf = some .local := (Y.loc slf (by rw [hps]; exact List.mem_cons_self)).1
  have hs : (ks_superIn K C C "__init__") = some (some (.builtin initId)) := Y.sup
  unfold ks_superIn at hs
  rw [hcd] at hs
  have inter : interactive (callEnv (ksFn "__init__" q params (.Expr (.Call (.Attribute (.Call (.Name "super" p0) [] [] p1) "__init__" p2) [.Constant (.str x) j p3] [] p4) p5 :: rest) scope .none kV doc pm an (.ref cda) ct cc) h.objs.size f) = false := by
    have hk := Y.kind
    simp [interactive, callEnv, newEnv, hk]
  obtain ⟨pl, hev⟩ := hcall (ksEnv q scope h.objs.size f (.ref cda) cc)
  refine ks_wpAt_execs_cons (ks_wpAt_Expr_any (ks_wpAt_MethodCall (pl := pl) (ks_wpAt_super_base (env := ksEnv q scope h.objs.size f (.ref cda) cc) Y.sup2 Y.cls2 (by decide) rfl (X1 _ _ lk) rfl har rfl (X1 _ _ fl1) rfl fl2 hP.1 hP.2 ?_) hev) (hi := inter))
  refine ks_loadName_global Y.kind Y.sup2 (loadGlobal_builtin (env := ksEnv q scope h.objs.size f (.ref cda) cc) (Mo.glob.keeps fun b o e => k01 b o (hb b o e)) hm (hmb1.keeps fun b o e => k01 b o (hb b o e)) ((hmb2 _ (by decide +kernel)).trans (by first | boot_by_name | rfl | kernel_rfl)) ⟨rfl, ?_⟩)
  refine wpAny_loadName_free Y.kind Y.cls2 rfl ⟨_, X1 _ _ lcell, rfl⟩ ?_
  refine wpAny_loadName_local Y.kind (by rw [harS]; exact locS) hns (by rw [harS]; exact ha) ?_
  refine ks_wpAny_isType_cls hD1 hD2 ⟨rfl, ?_⟩
  refine ks_wpAny_call_super hD1 hD2 he1 rfl (fun c e => by cases e) (looks_mroIn X1 Y.own) fun h2 so k2 => ?_
  have k02 : ∀ b o, h₀.get? b = some o → h2.get? b = some o := fun b o e => k2 b o (k01 b o e)
  have X2 : K.In h2 := X₀.keeps k02
  have he2 := k2 a _ he1
  have I2 : InstAt h2 a (excObj C t0 none .none) C none := ⟨he2, rfl, rfl, trivial⟩
  refine kxs_getMethod KF so (looks_opaque X2 Y.any) (l₀ := cd.mro) (fun A Q E s k q => wpAny_bind ((looks_clsIn X2 hcd) A _ E s k (wpAny_pure q))) rfl X2 hs (I2.type.andThen (looks_subIn X2 Y.sub)) aC (by decide) ?_
  have k3 : ∀ b o, h2.get? b = some o → (h2.push (kxs_mw initId a)).get? b = some o := fun b o e => Heap.get?_push_of_some _ e
  refine kxs_callWith (i := initId) (x := a) (by rfl) (evalArgs_plain ?_)
  show wpAny _ _ (spliced ((false, eval (.Constant (.str x) j p3) _) :: backTo p4 (starEach [] _))) _ _ _
  refine Calls.spliced_cons (Calls.Constant_str (Calls.spliced_nil ⟨Heap.get?_push_size _ rfl, ?_⟩))
  refine bound_call (X₀.keeps fun b o e => k3 b o (k02 b o e)) Y.ini FB (k3 a _ he2) (Heap.get?_push_size _ rfl) (show 1 ≤ sizeLine by decide) fun h4 t1 k4 at4 => ?_
  have k04 : ∀ b o, h₀.get? b = some o → h4.get? b = some o := fun b o e => k4 b o (fun z => by rw [z, na] at e; cases e) (k3 b o (k02 b o e))
  have hnl : h4.Ns h.objs.size (fun y => (ps.zip (Value.ref a :: us)).lookup y) := by
    have e : (fun y => (ps.zip (Value.ref a :: us)).reverse.lookup y) = fun y => (ps.zip (Value.ref a :: us)).lookup y := funext lookR
    rw [e] at hns
    exact ns_at hns fun o eo => k4 _ o aL (k3 _ o (k2 _ o eo))
  refine wpAt_of_wpAny (assigns (env := ksEnv q scope h.objs.size f (.ref cda) cc) X₀ na lo Y.cls SF Y.kind locS (by rw [← lookR]; exact ha) aL (Y.loc slf (by rw [hps]; exact List.mem_cons_self)).2 asn k04 hnl ⟨t1, .inl ⟨rfl, at4⟩⟩ (by simpa using Y.few) (fun z m => (Y.fld z m).1) (fun z m y ey => ?_) fun h' tk fs c1 c2 c3 => ?_)
  · have my := (Y.fld z m).2 y ey
    obtain ⟨v, hv⟩ := zip_lookup (us := Value.ref a :: us) hl my
    exact ⟨(Y.loc y my).1, ⟨v, hv⟩, (Y.loc y my).2⟩
  · obtain ⟨t2, ⟨e1, _⟩ | ⟨dx, d1, d2, _, d4, d5⟩⟩ := c3
    · have := c2.len
      rw [e1] at this
      cases l with
      | nil => exact absurd rfl hne
      | cons z r => simp at this
    · exact fin h' tk fs dx t2 c1 c2 d1 d2 d4 d5 hne
/-- C(..): the new exception, its dict -/
theorem make_run {f cda cc : Addr} {q slf : Str} {params : Arguments} {body : List Stmt} {scope : Scope} {ps : List Str} {l : List (Str × (Str ⊕ Str))} {us : List Value} {base : Heap} {mg : Str → Option Value} {R : Result → Shared → Prop} {fl : Str}
    (Y : XIn K C f cda cc B newId initId bmB q slf params body scope ps l fl) (hP : PrgOk prog fl) (KF : KxsFacts B initId) (FB : ExcBaseFacts B newId initId bmB) (SF : StoreFacts B bmB "object.__setattr__" "object") (iC : findIn K (.ref C) "__init__" = some (some (.ref f))) (tI : typeIn K (.ref f) = some (.type "function"))
    (hd : (A.under (.builtin "type.__call__" ⟨.ref C :: us, []⟩)).depth < recursionLimit) (Mo : L2.Mod K mg base) (hb : ∀ b o, base.get? b = some o → h.get? b = some o) (hm : mg "super" = none) (hl : us.length + 1 = ps.length) (hu : us.length ≤ sizeLine)
    (fin : ∀ h' tk fs dx t1 a, (∀ b o, h.get? b = some o → h'.get? b = some o) → Got (fun y => (ps.zip (.ref a :: us)).lookup y) l [] fs → h.objs.size ≤ dx → dx ≠ a → h.objs.size ≤ a → h'.get? a = some (excObj C t1 (some dx) .none) → (h'.Ns1 dx fun y => fs.lookup y) → R (.ok (.ret (.ref a))) ⟨h', g, d, tk, os⟩) (hne : l ≠ []) :
    codeAny (model prog w) A (.call (.ref C) ⟨us, []⟩) R ⟨h, g, d, t, os⟩ := by
  have X : K.In h := Mo.kin.keeps hb
  obtain ⟨nm, N', qn, bs, bm, hdct, sn, sub, ab, col, dd, k0, k1, k2, k3, k5, hC, hT⟩ := excInit_of X Y.ini
  have keep : ∀ b o, h.get? b = some o → ((h.push (kdv_tup us)).push (PySem.HandSPX.excO C h.objs.size)).get? b = some o := fun b o e => Heap.get?_push_of_some _ (Heap.get?_push_of_some _ e)
  have hget : ((h.push (kdv_tup us)).push (PySem.HandSPX.excO C h.objs.size)).get? (h.objs.size + 1) = some (excObj C h.objs.size none .none) := by
    show _ = some (PySem.HandSPX.excO C h.objs.size)
    heap_get
  have na : h.get? (h.objs.size + 1) = none := by
    cases q : h.get? (h.objs.size + 1) with
    | none => rfl
    | some o => exact absurd (Heap.lt_size q) (Nat.not_lt_of_le (Nat.le_succ _))
  refine PySem.HandSPX.call_own FB hT hC (looks_findIn X iC) (fun s => bind_fn X s tI) hu ?_
  exact init_run (R := InitBack (h.objs.size + 1) R) Y hP KF FB SF hd Mo hb hm keep na (Nat.le_succ _) hget (by simpa using hl) (fun kV doc pm an cd ct cc => Y.bd kV doc pm an cd ct cc _ (by simpa using hl)) (fun h' tk fs dx t1 c1 c2 c3 c4 c5 c6 _ => ⟨rfl, fin h' tk fs dx t1 _ c1 c2 c3 c4 (Nat.le_succ _) c5 c6⟩) hne
end
end REX
end
section
set_option maxRecDepth 100000
set_option maxHeartbeats 4000000
/-! own exceptions as values -/
namespace RL
open PySem PySem.Spec L2 OrdX
open PyProof.Rows hiding St
variable [Lams]
/-- what the fields are behind a row of stores -/
noncomputable def fldR {α : Type} (lit : Str → α) (look : Str → Option α) : List (Str × (Str ⊕ Str)) → List (Str × α) → Option (List (Str × α))
  | [], acc => some acc
  | (f, .inl x) :: l, acc => fldR lit look l ((f, lit x) :: acc)
  | (f, .inr y) :: l, acc => match look y with
    | some v => fldR lit look l ((f, v) :: acc)
    | none => none
inductive RelF : List (Str × V) → List (Str × Value) → Prop where
  | nil : RelF [] []
  | cons {f v u a b} (h : RelV v u) (r : RelF a b) : RelF ((f, v) :: a) ((f, u) :: b)
theorem RelF.look {a : List (Str × V)} {b : List (Str × Value)} (r : RelF a b) (f : Str) : RelO (a.lookup f) (b.lookup f) := by
  induction r with
  | nil => exact True.intro
  | @cons g v u a b h r ih =>
    by_cases e : f = g
    · subst e; simp [List.lookup]; exact h
    · have : (f == g) = false := by simpa using e
      simp [List.lookup, this]; exact ih
theorem got_rel {lv : Str → Option V} {lu : Str → Option Value} : ∀ {l : List (Str × (Str ⊕ Str))} {acc fs : List (Str × Value)} {accv fv : List (Str × V)}, (∀ z ∈ l, ∀ y v, z.2 = .inr y → lv y = some v → ∃ u, lu y = some u ∧ RelV v u) → REX.Got lu l acc fs → RelF accv acc → fldR V.str lv l accv = some fv → RelF fv fs
  | [], _, _, _, _, _, .nil, r, e => by cases (Option.some.inj e : _ = _); exact r
  | (f, .inl x) :: l, _, _, _, _, hl, .lit t h, r, e => got_rel (fun z m => hl z (List.mem_cons_of_mem _ m)) h (.cons (v := .str x) ⟨t, rfl⟩ r) e
  | (f, .inr y) :: l, _, _, accv, fv, hl, .par e1 h, r, e => by
    simp only [fldR] at e
    cases q : lv y with
    | none => rw [q] at e; cases e
    | some v =>
      rw [q] at e
      obtain ⟨u, h1, h2⟩ := hl _ List.mem_cons_self y v rfl q
      rw [e1] at h1; cases h1
      exact got_rel (fun z m => hl z (List.mem_cons_of_mem _ m)) h (.cons h2 r) e
section
variable {K : PySem.W.Frag} {mg : Str → Option Value} {ρ : RT} {H : Hp}
/-- the fields as trees, as values -/
theorem fld_rel {lw : Str → Option W} {lv : Str → Option V} : ∀ {l : List (Str × (Str ⊕ Str))} {accw fw : List (Str × W)} {accv : List (Str × V)}, (∀ z ∈ l, ∀ y w, z.2 = .inr y → lw y = some w → ∃ v, lv y = some v ∧ RW K mg ρ H w v) → accw.map (·.1) = accv.map (·.1) → RWs K mg ρ H (accw.map (·.2)) (accv.map (·.2)) →
    fldR W.str lw l accw = some fw → ∃ fv, fldR V.str lv l accv = some fv ∧ fw.map (·.1) = fv.map (·.1) ∧ RWs K mg ρ H (fw.map (·.2)) (fv.map (·.2))
  | [], _, _, _, _, hn, hr, e => by cases (Option.some.inj e : _ = _); exact ⟨_, rfl, hn, hr⟩
  | (f, .inl x) :: l, accw, fw, accv, hl, hn, hr, e => fld_rel (l := l) (accw := (f, .str x) :: accw) (accv := (f, .str x) :: accv) (fun z m => hl z (List.mem_cons_of_mem _ m)) (by rw [List.map_cons, List.map_cons, hn]) (.cons (.str x) hr) e
  | (f, .inr y) :: l, accw, fw, accv, hl, hn, hr, e => by
    simp only [fldR] at e
    cases q : lw y with
    | none => rw [q] at e; cases e
    | some w =>
      rw [q] at e
      obtain ⟨v, h1, h2⟩ := hl _ List.mem_cons_self y w rfl q
      obtain ⟨fv, g1, g2⟩ := fld_rel (l := l) (accw := (f, w) :: accw) (accv := (f, v) :: accv) (fun z m => hl z (List.mem_cons_of_mem _ m)) (by rw [List.map_cons, List.map_cons, hn]) (.cons h2 hr) e
      refine ⟨fv, ?_, g2⟩
      simp only [fldR, h1]; exact g1
theorem zip_rws : ∀ {ps : List Str} {ws : List W} {vs : List V} {y : Str} {w : W}, RWs K mg ρ H ws vs → (ps.zip ws).lookup y = some w → ∃ v, (ps.zip vs).lookup y = some v ∧ RW K mg ρ H w v
  | [], _, _, _, _, _, h => by simp [List.lookup] at h
  | p :: ps, _, _, _, _, .nil, h => by simp [List.lookup] at h
  | p :: ps, _, _, y, w, .cons r t, h => by
    by_cases e : y = p
    · subst e
      simp [List.lookup] at h ⊢
      subst h; exact r
    · have : (y == p) = false := by simpa using e
      simp [List.lookup, this] at h ⊢
      exact zip_rws t h
theorem zip_vals : ∀ {ps : List Str} {vs : List V} {us : List Value} {y : Str} {v : V}, Vals vs us → (ps.zip vs).lookup y = some v → ∃ u, (ps.zip us).lookup y = some u ∧ RelV v u
  | [], _, _, _, _, _, h => by simp [List.lookup] at h
  | p :: ps, _, _, _, _, .nil, h => by simp [List.lookup] at h
  | p :: ps, _, _, y, v, .cons r t, h => by
    by_cases e : y = p
    · subst e
      simp [List.lookup] at h ⊢
      subst h; exact r
    · have : (y == p) = false := by simpa using e
      simp [List.lookup, this] at h ⊢
      exact zip_vals t h
end
/-- C(..) of an own exception's class -/
noncomputable def gMakeX (c : Str) (ps : List Str) (l : List (Str × (Str ⊕ Str))) (ws : List W) (S : Store) : Res W := if ws.length = ps.length then (match fldR W.str (fun y => (ps.zip ws).lookup y) l [] with
  | some fw => .ok (.exn c (fw.map (·.1)) (fw.map (·.2))) S
  | none => .bad) else .bad
/-- the class c, its __init__ with the parameters ps keeps l; the program's file is fl -/
noncomputable def XTx (K : PySem.W.Frag) (mg : Str → Option Value) (c : Str) (st : Stmt) (slf : Str) (ps : List Str) (l : List (Str × (Str ⊕ Str))) (fl : Str) : Prop :=
  ∃ (C f cda cc : Addr) (B newId initId : String) (bmB : List Value) (q : Str), mg c = some (.ref C) ∧ PySem.W.findIn K (.ref C) "__init__" = some (some (.ref f)) ∧ PySem.W.typeIn K (.ref f) = some (.type "function") ∧ PySem.W.keepIn K (.ref C) = true ∧
    REX.XIn K C f cda cc B newId initId bmB q slf (defArgs st) (defBody st) (defScope st) (slf :: ps) l fl ∧ PySem.W.KxsFacts B initId ∧ ExcBaseFacts B newId initId bmB ∧ StoreFacts B bmB "object.__setattr__" "object" ∧ l ≠ [] ∧ ∀ z ∈ l, ∀ y, z.2 = .inr y → y ∈ ps
section
variable {X : Cx} {pins : List (Addr × Obj)} {σ : L2.St} {H : Hp} {s : Shared}
theorem zip_names {fv : List (Str × V)} {ns : List Str} (h : ns = fv.map (·.1)) : ns.zip (fv.map (·.2)) = fv := by
  subst h
  induction fv with
  | nil => rfl
  | cons p r ih => simp [ih]
end
section
variable {X : Cx} {E : EK} {pos apos p : Pos} {e o : Expr} {es : List Expr} {ma : SM W} {mr : SM (List W)} {c f fl slf : Str} {st : Stmt} {k' : Nat} {ps : List Str} {l : List (Str × (Str ⊕ Str))}
theorem exw_inst {P : Program} {w : World} {H : Hp} {h : Heap} {a C dx : Addr} {od : Obj} (hok : HOk P w H h) (ha : H a = some (exw a C (some dx))) (hod : h.get? dx = some od) : ∃ oe, PySem.W.InstAt h a oe C (some od) := by
  obtain ⟨⟨oe, vs, h1, h2, h3, h4⟩, _, _⟩ := (show ObjOk P w H h a (exw a C (some dx)) from hok a _ ha)
  exact ⟨oe, h1, h2, by unfold PySem.W.notCls; rw [h4], by rw [h3]; exact hod⟩
/-- e.f of an exception of one of the classes cs -/
noncomputable def gXFld (cs : List Str) (f : Str) (w : W) (S : Store) : Res W := match w with
  | .exn c ns ws => if c ∈ cs then (match (ns.zip ws).lookup f with
    | some v => .ok v S
    | none => .bad) else .bad
  | _ => .bad
noncomputable def XfT (K : PySem.W.Frag) (mg : Str → Option Value) (cs : List Str) (f : Str) : Prop := ∀ c ∈ cs, ∀ C, mg c = some (.ref C) → XfC K C ∧ PySem.W.findIn K (.ref C) f = some none
theorem pm_xfld {cs : List Str} (T : XfT X.K X.mg cs f) (ha : PM X E e ma) (hb : attributeBase e f X.env (eval e X.env) = eval e X.env := by rfl) : PM X E (.Attribute e f pos) (mUn (gXFld cs f) ma) := by
  refine ⟨fun pins s σ H Q I h => ?_⟩
  refine attr_of hb (thn (ha.run pins s σ H (fun x H1 => ∃ ρ S w, RepS X.K X.mg ρ H1 S ∧ RW X.K X.mg ρ H1 w x ∧ Out X.K X.mg (RW X.K X.mg) E ρ H1 (gXFld cs f w S) Q) I (tX.bind (m := ma) (k := fun w s S => gXFld cs f w S) h fun ρ1 H1 w v s S1 rep env r o => ⟨ρ1, S1, w, rep, r, o⟩)) fun u s1 ⟨x, H1, I1, rx, ρ, S, w, rep, r, o⟩ => ?_)
  unfold gXFld at o
  split at o
  · rename_i c ns ws
    split at o
    · rename_i hc
      cases r with
      | @exn a C dx _ _ _ vs hC hx hd hl hr =>
        obtain rfl : u = Value.ref a := rx
        obtain ⟨T1, hno⟩ := T c hc C hC
        cases e1 : (ns.zip ws).lookup f with
        | none => rw [e1] at o; exact o.elim
        | some wv =>
          rw [e1] at o
          dsimp only at o
          obtain ⟨v, e2, rv⟩ := zip_rws hr e1
          obtain ⟨mA, hns, rel⟩ := (show ObjOk X.prog X.w H1 s1.heap dx (.xd (ns.zip vs)) from I1.hok dx _ hd.1)
          obtain ⟨od, hod, hlk⟩ := lookIn_ns hns
          obtain ⟨u, hu, ru⟩ := RelO.some_of (v := v) (o := mA f) (by rw [← e2]; exact rel f)
          obtain ⟨oe, J⟩ := exw_inst I1.hok hx.1 hod
          exact HandSPX.exc_get I1.kIn J T1.ga T1.gg T1.exC (PySem.W.findObj_own T1.hdC hno rfl (by rw [hlk, hu])) (handed_of ru) ⟨v, H1, I1.tok _, ru, Out.here o rep rv⟩
    · exact o.elim
  · exact o.elim
/-- an exception's class, as isinstance wants it -/
structure XiC (K : PySem.W.Frag) (C : Addr) : Prop where
  xf : XfC K C
  cl : (PySem.W.clsIn K C).isSome = true
  ha : PySem.W.findIn K (.ref C) "__class__" = some (some (.builtin "object.__class__"))
  hn : PySem.W.specialIn K (.builtin "object.__class__") "__get__" = some (some (.builtin "getset_descriptor.__get__"))
  ht : PySem.W.takesIn K (.builtin "object.__class__") = some true
  hm : PySem.W.mroIn K C (.type "object") = some true
end
end RL
end
section
set_option maxRecDepth 100000
set_option maxHeartbeats 4000000
/-! own exceptions made by keyword -/
namespace REX
open PySem PySem.Spec PySem.Calls PyProof.Rows PySem.W
open Builtin
section
variable {prog : Program} {w : World} {A : Around} {E : Value → Shared → Prop} {R : Result → Shared → Prop} {h : Heap} {g : Array GenState} {d : Drawn} {t : Nat} {os : OsState}
variable {nm q : Str} {C N : Addr} {bs bm bmB : List Value} {hdct : Bool} {sn : List Str} {sub : List Value} {ab : Bool} {col : Option Bool} {dd : Option Addr} {k0 k1 k2 k3 k5 : Option Value} {B newId initId : String} {kw : List (Str × Value)}
noncomputable abbrev laid (h : Heap) (C : Addr) : Heap := (h.push { cls := .type "tuple", data := .seq ([] : List Value).toArray }).push (PySem.HandSPX.excO C h.objs.size)
end
end REX
namespace RL
open PySem PySem.Spec L2 OrdX
open PyProof.Rows hiding St
end RL
end
section
set_option maxRecDepth 100000
set_option maxHeartbeats 4000000
/-! raise C(..) of an own exception's class -/
namespace RL
open PySem PySem.Spec L2 OrdX
open PyProof.Rows hiding St
variable [Lams]
/-- it may be raised -/
noncomputable def RaT (K : PySem.W.Frag) (mg : Str → Option Value) (c : Str) : Prop := ∀ C, mg c = some (.ref C) → PySem.W.subIn K (.ref C) (.type "BaseException") = some true ∧ PySem.W.typeIn K (.ref C) = some (.type "type")
noncomputable def mRaise (m : SM W) : SS := fun s S => (m s S).bind fun w S1 => match w with
  | .exn c ns ws => .exc c ns ws S1
  | _ => .bad
/-- the wish behind the making -/
noncomputable def OutX (X : Cx) (Qx : XK) (ρ : RT) (H : Hp) (r : Res W) : Prop := match r with
  | .ok (.exn c ns ws) S => ExcOut X.K X.mg Qx ρ H c ns ws S
  | _ => False
section
variable {X : Cx} {pins : List (Addr × Obj)} {σ : L2.St} {H : Hp} {s : Shared} {Qx : XK}
theorem makeX_mkp {c fl : Str} {ps : List Str} {l : List (Str × (Str ⊕ Str))} {C f cda cc : Addr} {B newId initId : String} {bmB : List Value} {q slf : Str} {params : Arguments} {body : List Stmt} {scope : Scope} {ws : List W} {vs : List V} {us : List Value} {ρ : RT} {S : Store} {fw : List (Str × W)}
    (Y : REX.XIn X.K C f cda cc B newId initId bmB q slf params body scope (slf :: ps) l fl) (hpar : ∀ z ∈ l, ∀ y, z.2 = .inr y → y ∈ ps) (hC : X.mg c = some (.ref C)) (hra : Raises X (.ref C)) (I : Inv X pins σ H s) (r : Vals vs us) (rep : RepS X.K X.mg ρ H S) (rw' : RWs X.K X.mg ρ H ws vs)
    (ew : fldR W.str (fun y => (ps.zip ws).lookup y) l [] = some fw) (o : ExcOut X.K X.mg Qx ρ H c (fw.map (·.1)) (fw.map (·.2)) S) {h' : Heap} {tk' : Nat} {fs : List (Str × Value)} {dx : Nat} {t1 a : Addr}
    (keep : ∀ b o, s.heap.get? b = some o → h'.get? b = some o) (got : REX.Got (fun y => ((slf :: ps).zip (Value.ref a :: us)).lookup y) l [] fs) (c2 : s.heap.objs.size ≤ dx) (c3 : dx ≠ a) (c4 : s.heap.objs.size ≤ a) (c5 : h'.get? a = some (PySem.W.excObj C t1 (some dx) .none)) (c6 : h'.Ns1 dx fun y => fs.lookup y) :
    MkP X pins σ Qx (.ref a) { s with heap := h', toks := tk' } := by
  obtain ⟨fv, g1, g2, g3⟩ := fld_rel (lv := fun y => (ps.zip vs).lookup y) (accw := []) (accv := []) (fun z m y w _ h => zip_rws rw' h) rfl .nil ew
  have ndS : slf ∉ ps := (List.nodup_cons.mp Y.nd).1
  have rf : RelF fv fs := got_rel (lv := fun y => (ps.zip vs).lookup y) (accv := []) (fun z m y v ez h => by
    have hy := hpar z m y ez
    have : (y == slf) = false := by
      have : y ≠ slf := fun e => ndS (e ▸ hy)
      simpa using this
    obtain ⟨u, h1, h2⟩ := zip_vals r h
    exact ⟨u, by simp [List.lookup, this, h1], h2⟩) got .nil g1
  have fa : H a = none := I.hok.fresh c4
  have fd : H dx = none := I.hok.fresh c2
  obtain ⟨G, G1, G2⟩ := L2.restrict h' fun b => decide (b ≠ a)
  have gO : ∀ b, b ≠ a → G.get? b = h'.get? b := fun b n => G1 b (by simpa using n)
  have gA : G.get? a = none := G2 a (by simp)
  have gK : ∀ b o, G.get? b = some o → h'.get? b = some o := fun b o e => by
    rw [gO b fun z => by rw [z, gA] at e; cases e] at e
    exact e
  have kG : ∀ b u, s.heap.get? b = some u → G.get? b = some u := fun b u e => by
    rw [gO b (Nat.ne_of_lt (Nat.lt_of_lt_of_le (Heap.lt_size e) c4))]
    exact keep b u e
  have J := I.laid (a := dx) (o := .xd fv) (h' := G) (t' := tk') kG c2 (by
    obtain ⟨o, es, ep, e, r⟩ := c6
    exact ⟨_, ⟨o, es, ep, (gO dx c3).trans e, r⟩, fun f => rf.look f⟩)
  obtain ⟨e1, rep1⟩ := rep.tree fd (.xd fv)
  refine ⟨a, _, _, _, _, .ref C, some dx, rfl, J, gK, gA, c5, ⟨rfl, rfl⟩, rfl, rfl, by rw [upd_ne (Ne.symm c3)]; exact fa, rfl, I.bare, hra, ?_⟩
  refine o ρ _ C dx (fv.map (·.2)) e1 rep1 hC ?_ ?_ (g3.ext e1)
  · rw [zip_names g2]; exact fx_new rep fd _
  · rw [g2, List.length_map, List.length_map]
variable {E : EK} {pos apos cpos p : Pos} {e o : Expr} {es : List Expr} {ma : SM W} {mr : SM (List W)} {c f fl slf : Str} {st : Stmt} {k' : Nat} {ps : List Str} {l : List (Str × (Str ⊕ Str))}
theorem raX_core {C : Addr} {ws : List W} {vs : List V} {us : List Value} {ρ : RT} {S : Store} (T : XTx X.K X.mg c st slf ps l fl) (hP : REX.PrgOk X.prog fl) (hs : X.mg "super" = none) (hr : Room k' X.A) (hra : RaT X.K X.mg c) (hC : X.mg c = some (.ref C))
    (I : Inv X pins σ H s) (r : Vals vs us) (rep : RepS X.K X.mg ρ H S) (rw' : RWs X.K X.mg ρ H ws vs) (o : OutX X Qx ρ H (gMakeX c ps l ws S)) : wpAny (model X.prog X.w) X.A (call (.ref C) us) (MkP X pins σ Qx) X.xe s := by
  have hra := raises_own (X := X) (hra C hC).1 (hra C hC).2
  obtain ⟨C', f, cda, cc, B, newId, initId, bmB, q, t1, t2, t3, t4, Y, KF, FB, SF, hne, hpar⟩ := T
  rw [hC] at t1; cases t1
  unfold gMakeX at o
  split at o
  · rename_i hz
    cases ew : fldR W.str (fun y => (ps.zip ws).lookup y) l [] with
    | none => rw [ew] at o; exact o.elim
    | some fw =>
      rw [ew] at o
      have hlen : us.length = ps.length := by rw [← r.length, ← rw'.length, hz]
      obtain ⟨hp, gg, dr, tk, os⟩ := s
      have few : us.length ≤ sizeLine := by
        have := Y.psFew
        rw [List.length_cons] at this
        rw [hlen, sizeLine_eq]; omega
      exact wpAny_call (REX.make_run Y hP KF FB SF t2 t3 (by rw [make_depth]; have := hr.dp; omega) I.ok.mod I.bk hs (by simp [hlen]) few (fun h' tk' fs dx t1 a keep got c2 c3 c4 c5 c6 => makeX_mkp Y hpar hC hra I r rep rw' ew o keep got c2 c3 c4 c5 c6) hne)
  · exact o.elim
theorem gMakeX_or (ws : List W) (S : Store) : gMakeX c ps l ws S = .bad ∨ ∃ ns us, gMakeX c ps l ws S = .ok (.exn c ns us) S := by
  unfold gMakeX
  split
  · cases fldR W.str (fun y => (ps.zip ws).lookup y) l [] with
    | none => exact .inl rfl
    | some fw => exact .inr ⟨_, _, rfl⟩
  · exact .inl rfl
/-- raise C(e, ..) -/
theorem psm_raiseX (hc : X.calm = true) (tk : Takes X (fun c d _ H => E c d H)) (T : XTx X.K X.mg c st slf ps l fl) (hP : REX.PrgOk X.prog fl) (hs : X.mg "super" = none) (hr : Room k' X.A) (hra : RaT X.K X.mg c) (ha : PAM X E (e :: es) mr) (hg : Gl X c := by rfl) (hdb : (c == ("__debug__" : Str)) = false := by decide +kernel)
    (he : starEach (e :: es) X.env = (false, eval e X.env) :: starEach es X.env := by rfl) (hpl : (backTo cpos (starEach es X.env)).any (·.1) = false := by rfl) : PSM X E (.Raise (some (.Call (.Name c p) (e :: es) [] cpos)) none pos) (mRaise (mAp (gMakeX c ps l) mr)) := by
  obtain ⟨C, _, _, _, _, _, _, _, _, h1, _, _, h4, _⟩ := id T
  have pmk : PMk X (.Call (.Name c p) (e :: es) [] cpos) (fun σ H Qx => tA X E mr σ H fun vs H1 => ∃ ρ S ws, RepS X.K X.mg ρ H1 S ∧ RWs X.K X.mg ρ H1 ws vs ∧ OutX X Qx ρ H1 (gMakeX c ps l ws S)) := by
    intro pins s σ H Q I h
    refine wpAny_Call_Name_kw (ld_glob I hg h1 ?_ hdb)
    refine PySem.W.callWith_K (h₀ := X.base) I.ok.mod.kin h4 (thn (ha.run cpos pins s σ H _ I h) fun us s1 ⟨vs, H1, I1, r, ρ, S, ws, rep, rw', o⟩ => ⟨I1.kIn, ?_⟩) he hpl
    exact raX_core T hP hs hr hra h1 I1 r rep rw' o
  refine ps_imp (ps_raise hc tk pmk) fun D σ H ⟨ρ, s, S, rep, env, o⟩ => ?_
  refine ⟨ρ, s, S, rep, env, ?_⟩
  unfold mRaise mAp at o
  cases e1 : mr s S with
  | ok ws S1 =>
    rw [e1] at o
    intro ρ1 H1 vs x rep1 r
    refine ⟨ρ1, S1, ws, rep1, r, ?_⟩
    have o : OutS X.K X.mg E ρ H ((gMakeX c ps l ws S1).bind fun w S1 => match w with
      | .exn c ns ws => .exc c ns ws S1
      | _ => .bad) D := o
    rcases gMakeX_or (c := c) (ps := ps) (l := l) ws S1 with z | ⟨ns, us, z⟩
    · rw [z] at o; exact o.elim
    · rw [z] at o ⊢
      exact ExcOut.ext x o
  | exc cn ns ws S1 => rw [e1] at o; exact o
  | bad => rw [e1] at o; exact o
end
end RL
end
section
set_option maxRecDepth 100000
set_option maxHeartbeats 2000000
/-! the law's end, with tables of code objects -/
namespace RL
open PySem PySem.Spec L2
open PyProof.Rows hiding St
variable [Lams]
/-- a tracked list is read as one that never changes -/
theorem frz_ok {P : Program} {w : World} {H : Hp} {h : Heap} {a : Addr} {xs : List V} {o : Obj} (hok : HOk P w H h) (ha : H a = some (.lst xs)) (e : h.get? a = some o) : HOk P w (upd H a (.frz o (.lst xs))) h := fun b u q => by
  by_cases hb : b = a
  · subst hb; rw [upd_same] at q; cases q
    exact ⟨e, hok b _ ha⟩
  · rw [upd_ne hb] at q
    have keep : ∀ c v, H c = some v → (∀ ys, v ≠ .lst ys) → upd H a (.frz o (.lst xs)) c = some v := fun c v z n => by
      rw [upd_ne fun y => n xs (by rw [y, ha] at z; exact (Option.some.inj z).symm)]; exact z
    exact (hok b u q).stay (fun _ _ _ z => z) (fun c z => keep c _ z fun _ y => nomatch y) fun c ys z => keep c _ z fun _ y => nomatch y
theorem frz_un {fs : List Addr} {H H' : Hp} {h h' : Heap} {a : Addr} {xs : List V} {o : Obj} (ha : H a = some (.lst xs)) (u : Un fs [] (upd H a (.frz o (.lst xs))) H' h h') : Un fs [] H H' h h' := by
  have ne : ∀ b v, H b = v → v ≠ some (.lst xs) → upd H a (.frz o (.lst xs)) b = v := fun b v e n => by
    rw [upd_ne fun z => n (by rw [← e, z, ha])]; exact e
  exact ⟨fun b p e n => u.keep b p e (ne b _ n (by simp)), fun b p e n => u.slot b p e (ne b _ n (by simp)), fun b p e n => u.free b p e (ne b _ n (by simp)), u.there, fun b ys e => u.tups b ys (ne b _ e (by simp)), fun b p v e => u.frzs b p v (ne b _ e (by simp)), fun b ps e => u.tbls b ps (ne b _ e (by simp))⟩
theorem frz_ub {fs : List Addr} {H H' : Hp} {h B h' : Heap} {a : Addr} {xs : List V} {o : Obj} (ha : H a = some (.lst xs)) (u : UB fs (upd H a (.frz o (.lst xs))) H' h B h') : UB fs H H' h B h' := by
  have ne : ∀ b v, H b = v → v ≠ some (.lst xs) → upd H a (.frz o (.lst xs)) b = v := fun b v e n => by
    rw [upd_ne fun z => n (by rw [← e, z, ha])]; exact e
  exact ⟨fun b p e n => u.keep b p e (ne b _ n (by simp)), u.slot, fun b p e n => u.free b p e (ne b _ n (by simp)), u.there, fun b ys e => u.tups b ys (ne b _ e (by simp)), fun b p v e => u.frzs b p v (ne b _ e (by simp)), fun b ps e => u.tbls b ps (ne b _ e (by simp))⟩
/-- .. for a def of one argument -/
noncomputable def spF (sp : Sp) : Sp := fun vs H Q E => sp vs H Q E ∨ ∃ a xs, vs = [.ref a] ∧ H a = some (.lst xs) ∧ ∀ o, sp [.ref a] (upd H a (.frz o (.lst xs))) Q E
theorem fn_frz {P : Program} {w : World} {K : PySem.W.Frag} {mg : Str → Option Value} {base : Heap} {k : Nat} {f : Addr} {fd : FuncData} {ps : List Str} {sp : Sp} (F : FnOk P w K mg base (L2.CX P w) k f fd ps sp) : FnOk P w K mg base (L2.CX P w) k f fd ps (spF sp) where
  len := fun vs H Q E h => by
    rcases h with h | ⟨a, xs, rfl, ha, h⟩
    · exact F.len _ _ _ _ h
    · exact F.len _ _ _ _ (h default)
  run := fun A outer s H args us vs Q E hr e0 hb r h => by
    rcases h with h | ⟨a, xs, rfl, ha, h⟩
    · exact F.run A outer s H args us vs Q E hr e0 hb r h
    · obtain ⟨_, its, n, _, e⟩ := (show ObjOk P w H s.heap a (.lst xs) from e0.hok a _ ha)
      have free : ∀ b, H b = none → ∀ o, upd H a (.frz o (.lst xs)) b = none := fun b n o => by rw [upd_ne fun z => by rw [z, ha] at n; cases n]; exact n
      have e1 : Env0 P w K mg base A outer s (upd H a (.frz _ (.lst xs))) := ⟨e0.frames, e0.mod, fun b o q => ⟨(e0.bs b o q).1, free b (e0.bs b o q).2 _⟩, e0.bsz, e0.funs, fun b q => free b (e0.frf b q) _, frz_ok e0.hok ha e, e0.bare⟩
      refine codeAny_mono (F.run A outer s _ args us [.ref a] Q E hr e1 hb r (h _)) fun rr s' hq => ?_
      cases rr with
      | error u =>
        obtain ⟨b, B, H', cls, d, h1, h2, h3, h4, h5⟩ := hq
        exact ⟨b, B, H', cls, d, h1, h2, h3, frz_ub ha h4, h5⟩
      | ok fl =>
        cases fl with
        | ret u =>
          obtain ⟨v, H', h1, h2, h3, h4⟩ := hq
          exact ⟨v, H', h1, h2, frz_un ha h3, h4⟩
        | next => exact hq
        | brk => exact hq
        | cont => exact hq
/-- the makers of lambdas: their names, code objects, tables -/
noncomputable def TabL (K : PySem.W.Frag) (mg : Str → Option Value) (h : Heap) (ts : List (Str × Addr × Addr)) : Prop := (ts.map (·.2.2)).Nodup ∧ ∀ t ∈ ts,
  (∃ f oc od fd osl, mg t.1 = some (.ref f) ∧ K.lookup f = some ⟨oc, od, .func fd, osl⟩ ∧ fd.code = .ref t.2.1) ∧ PySem.W.codeHdIn K t.2.1 t.2.2 = true ∧ h.get? t.2.2 = some (PySem.W.tabObj #[]) ∧ K.lookup t.2.2 = none
theorem tab_at {K : PySem.W.Frag} {mg : Str → Option Value} {h : Heap} {x : Str} {c P : Addr} (X : K.In h) (G : h.Ns mainGlobals mg) (e : PySem.W.tabIn K x = some (c, P)) : ∃ f oc od fd osl, mg x = some (.ref f) ∧ K.lookup f = some ⟨oc, od, .func fd, osl⟩ ∧ fd.code = .ref c := by
  unfold PySem.W.tabIn at e
  split at e
  · rename_i f hf
    split at e
    · rename_i oc od fd osl hfo
      split at e
      · rename_i c2 hc
        split at e
        · split at e
          · cases e
            exact ⟨f, oc, od, fd, osl, PySem.W.mg_of X G hf, hfo, hc⟩
          · cases e
        · cases e
      · cases e
    · cases e
  · cases e
theorem hd_one {h : Heap} {c P P' : Addr} (a : PySem.W.CodeHd h c P) (b : PySem.W.CodeHd h c P') : P = P' := by
  obtain ⟨o, vs, _, _, _, _, _, _, _, e1, _, e3, e4, _⟩ := a
  obtain ⟨o', vs', _, _, _, _, _, _, _, f1, _, f3, f4, _⟩ := b
  rw [e1] at f1; cases f1
  rw [e3] at f3; cases f3
  rw [e4] at f4; cases f4; rfl
theorem rep_tabs {K : PySem.W.Frag} {mg : Str → Option Value} {h : Heap} {H : Hp} {ts : List (Str × Addr × Addr)} (T : TabL K mg h ts) (hH : ∀ t ∈ ts, H t.2.2 = some (.tbl #[])) : RepS K mg ⟨ts.map (·.2.2), [], fun _ => none⟩ H (ts.map fun t => Ob.tab t.1) := by
  refine ⟨by simp, T.1, fun l o hl => ?_, (fun a m => nomatch m), (fun a m => nomatch m)⟩
  rw [List.getElem?_map] at hl
  cases e : ts[l]? with
  | none => rw [e] at hl; cases hl
  | some t =>
    rw [e] at hl
    cases (Option.some.inj hl : Ob.tab t.1 = o)
    have m := List.mem_of_getElem? e
    obtain ⟨⟨f, oc, od, fd, osl, h1, h2, h3⟩, h4, _⟩ := T.2 t m
    exact ⟨t.2.2, by show (ts.map (·.2.2))[l]? = _; rw [List.getElem?_map, e]; rfl, .tab (ps := #[]) ⟨f, t.2.1, oc, od, fd, osl, h1, h2, h3, fun base KB => PySem.W.codeHd_of_K KB h4⟩ (hH t m) True.intro fun pos cv z => by simp [codeAmong] at z⟩
theorem walk_lawT {l : PySem.W.OpenLaw} {k : Nat} {q : Program} {loose : List Str} {XP : (Str → Option Value) → Heap → Prop} {YP : World → Heap → Prop} {d : DefRec} {K : Params → PySem.W.Frag} {x : Str} {st : Stmt} {g : Fn} (ts : List (Str × Addr × Addr))
    (hg : ∀ ns : List Int, ns.length ≤ 63 → ∃ S, g [.flst (ns.map W.int)] (ts.map fun t => Ob.tab t.1) = .ok (.bl true) S)
    (hbind : ∀ (kV doc pm : Value) (an : Option Addr) (cdv ct u : Value), bindArgs (PySem.W.fnOf d.name d.name (defArgs st) (defBody st) (defScope st) .none kV doc pm an cdv ct) ⟨[u], []⟩ = pure [(x, u)])
    (hn : l.most = some 63) (hdf : d.params.defaults = []) (hr : Room k callerA) (hY : ∀ (w : World) (h : Heap), YP w h → (K w.params).In h)
    (hT : ∀ (w : World) (mg : Str → Option Value) (h : Heap), YP w h → (K w.params).In h → h.Ns mainGlobals mg → FTx (K w.params) mg d.name st [x] ∧ TabL (K w.params) mg h ts ∧ ∀ base, (∀ t ∈ ts, TabK base (K w.params) mg t.1) → FnE l.prog w (K w.params) mg base k d.name st [x] g) :
    PySem.W.WalkO q loose XP YP l.row.toRowW d [] (fun f vs => PySem.call f vs) := by
  refine LamX.walk_ofTs (l := l) (n := 63) (k := k) (x := x) (CX := fun w => L2.CX l.prog w) hn (by decide) hdf hr hY ?_ fun w H s e s' z => cx_end z
  intro w mg fa h Y KX G hmg
  obtain ⟨⟨f, fd, F, hf, hb⟩, T, hE⟩ := hT w mg h Y KX G
  rw [hmg] at hf
  cases hf
  refine ⟨fd, ts.map (·.2), spF (spM (K w.params) mg 1 g), fun p m => ?_, fun p m => ?_, fun p m => ?_, fun s u => ?_, fun H a ns hl _ hH hS => ?_, fun base KB GB hTB => ?_⟩
  · obtain ⟨t, ht, rfl⟩ := List.mem_map.mp m
    exact (T.2 t ht).2.2.1
  · obtain ⟨t, ht, rfl⟩ := List.mem_map.mp m
    exact (T.2 t ht).2.2.2
  · obtain ⟨t, ht, rfl⟩ := List.mem_map.mp m
    exact PySem.W.codeHd_of_K KX (T.2 t ht).2.1
  · obtain ⟨oc, od, kV, doc, pm, an, cdv, ct, osl, rfl, _, _⟩ := F.ex
    exact .of_eq (hbind kV doc pm an cdv ct u)
  · have intsW : ∀ (H : Hp) (ns : List Int), RWs (K w.params) mg ⟨ts.map (·.2.2), [], fun _ => none⟩ H (ns.map W.int) (ns.map V.int) := fun H ns => by
      induction ns with
      | nil => exact .nil
      | cons n r ih => exact .cons (.int n) ih
    have main : ∀ H : Hp, (∀ t ∈ ts, H t.2.2 = some (.tbl #[])) → ((∃ o, H a = some (.frz o (.lst (ns.map V.int)))) ∨ KList (K w.params) a (ns.map V.int)) → spM (K w.params) mg 1 g [.ref a] H (fun v _ => v = .bl true) fun _ _ _ => False := fun H hH hA => by
      refine ⟨⟨ts.map (·.2.2), [], fun _ => none⟩, _, [.flst (ns.map W.int)], rep_tabs T hH, .cons (.flst ?_ (intsW H ns)) .nil, rfl, ?_⟩
      · refine hA.imp (fun ⟨o, z⟩ => ⟨o, z, (fun m => ?_), (fun m => nomatch m)⟩) id
        obtain ⟨t, ht, e⟩ := List.mem_map.mp m
        have z2 := hH t ht
        rw [e, z] at z2; cases z2
      · obtain ⟨S, e⟩ := hg ns hl
        rw [e]
        intro ρ' H' v _ _ r
        cases r
        rfl
    have hH' : ∀ t ∈ ts, H t.2.2 = some (.tbl #[]) := fun t ht => hH t.2 (List.mem_map.mpr ⟨t, ht, rfl⟩)
    rcases hS with (hS | hS) | hS
    · refine .inr ⟨a, _, rfl, hS, fun o => main _ (fun t ht => ?_) (.inl ⟨o, upd_same⟩)⟩
      rw [upd_ne fun z => by have q := hH' t ht; rw [z, hS] at q; cases q]
      exact hH' t ht
    · exact .inl (main H hH' (.inl hS))
    · exact .inl (main H hH' (.inr hS))
  · have tk : ∀ t ∈ ts, TabK base (K w.params) mg t.1 := fun t ht => by
      refine ⟨KB, fun f' c oc od fd' osl P' h1 h2 h3 h4 => ?_⟩
      obtain ⟨⟨f2, oc2, od2, fd2, osl2, g1, g2, g3⟩, g4, _⟩ := T.2 t ht
      rw [h1] at g1; cases g1
      rw [h2] at g2; cases g2
      rw [h3] at g3; cases g3
      have e := hd_one h4 (PySem.W.codeHd_of_K KB g4)
      subst e
      exact hTB t.2 (List.mem_map.mpr ⟨t, ht, rfl⟩)
    obtain ⟨f', fd', h1, h2, h3, h4⟩ := hE base tk
    rw [hmg] at h1
    cases h1
    obtain ⟨oc, od, kV, doc, pm, an, cdv, ct, osl, e1, l1, _⟩ := F.ex
    obtain ⟨oc', od', kV', doc', pm', an', cdv', ct', osl', e2, l2, _⟩ := h2.ex
    rw [l1] at l2
    injection l2 with l2
    injection l2 with _ _ l2 _
    injection l2 with l2
    subst l2
    exact fn_frz h4
end RL
namespace RL
open PySem PySem.Spec L2
section
variable {K : PySem.W.Frag} {mg : Str → Option Value} {h : Heap} {x : Str} {c P : Addr} {t : Str × Addr × Addr} {ts : List (Str × Addr × Addr)}
noncomputable def TabOne (K : PySem.W.Frag) (mg : Str → Option Value) (t : Str × Addr × Addr) : Prop := ∃ f oc od fd osl, mg t.1 = some (.ref f) ∧ K.lookup f = some ⟨oc, od, .func fd, osl⟩ ∧ fd.code = .ref t.2.1
theorem tab_one (X : K.In h) (G : h.Ns mainGlobals mg) (e : PySem.W.tabIn K x = some (c, P)) : TabOne K mg (x, c, P) := tab_at X G e
theorem tabL_nil : TabL K mg h [] := ⟨List.nodup_nil, fun _ m => nomatch m⟩
theorem tabL_cons (T : TabOne K mg t) (h1 : PySem.W.codeHdIn K t.2.1 t.2.2 = true) (h2 : h.get? t.2.2 = some (PySem.W.tabObj #[])) (h3 : K.lookup t.2.2 = none) (R : TabL K mg h ts) (h4 : (ts.map (·.2.2)).contains t.2.2 = false) : TabL K mg h (t :: ts) := by
  refine ⟨?_, fun s m => ?_⟩
  · rw [List.map_cons, List.nodup_cons]
    refine ⟨fun m => ?_, R.1⟩
    rw [List.contains_iff_mem.mpr m] at h4; cases h4
  · rcases List.mem_cons.mp m with rfl | m
    · exact ⟨T, h1, h2, h3⟩
    · exact R.2 s m
end
end RL
end
section
set_option maxRecDepth 100000
set_option maxHeartbeats 2000000
namespace RL
open PySem PySem.Spec L2
open PyProof.Rows hiding St
/-! ### plain reasoning about the denotations -/
/-- it ends well, with Q -/
noncomputable def Ev {α : Type} (r : Res α) (Q : α → Store → Prop) : Prop := ∃ a S, r = .ok a S ∧ Q a S
section
variable {α β : Type} {a : α} {S : Store} {Q Q' : α → Store → Prop} {r : Res α} {k : α → Store → Res β} {R : β → Store → Prop}
@[simp] theorem ev_ok : Ev (.ok a S) Q ↔ Q a S := ⟨fun ⟨b, T, e, h⟩ => (by cases e; exact h), fun h => ⟨a, S, rfl, h⟩⟩
@[simp] theorem ev_bad : Ev (.bad : Res α) Q ↔ False := ⟨fun ⟨_, _, e, _⟩ => (nomatch e), False.elim⟩
@[simp] theorem ev_bind : Ev (r.bind k) R ↔ Ev r fun a S => Ev (k a S) R := by
  cases r with
  | ok a S => exact (ev_ok (Q := fun a S => Ev (k a S) R)).symm
  | exc c ns ws S => exact ⟨fun ⟨_, _, e, _⟩ => (nomatch e), fun ⟨_, _, e, _⟩ => (nomatch e)⟩
  | bad => exact ⟨fun ⟨_, _, e, _⟩ => (nomatch e), fun ⟨_, _, e, _⟩ => (nomatch e)⟩
@[simp] theorem ok_bind : (Res.ok a S).bind k = k a S := rfl
@[simp] theorem bad_bind : (Res.bad : Res α).bind k = .bad := rfl
theorem Ev.mono (h : Ev r Q) (hq : ∀ a S, Q a S → Q' a S) : Ev r Q' := by
  obtain ⟨a, S, e, h⟩ := h
  exact ⟨a, S, e, hq _ _ h⟩
theorem Ev.ok (h : Q a S) : Ev (.ok a S) Q := ⟨a, S, rfl, h⟩
theorem Ev.ex (h : Ev r Q) : ∃ a S, r = .ok a S ∧ Q a S := h
end
section
variable {s : Env'} {S : Store} {w : W} {i : Nat}
@[simp] theorem mC_eq : mC w s S = .ok w S := rfl
@[simp] theorem mNil_eq : mNil s S = .ok [] S := rfl
@[simp] theorem mYes_eq : mYes s S = .ok true S := rfl
@[simp] theorem mSkip_eq : mSkip s S = .ok (.nx, s) S := rfl
@[simp] theorem mNoPart_eq : mNoPart s S = .ok none S := rfl
@[simp] theorem mVar_0 : mVar 0 (some w :: s) S = .ok w S := rfl
@[simp] theorem mVar_s {o : Option W} : mVar (i + 1) (o :: s) S = mVar i s S := by simp [mVar]
@[simp] theorem gNm_eq : gNm i w s S = .ok (s.set i (some w)) S := rfl
@[simp] theorem gTp_eq {n : Nat} {gs : GMs} {ws : List W} : gTp n gs (.tup ws) s S = if ws.length = n then gs ws s S else .bad := rfl
@[simp] theorem gNil_eq : gNil [] s S = .ok s S := rfl
@[simp] theorem gCons_eq {g : GM} {gs : GMs} {ws : List W} : gCons g gs (w :: ws) s S = (g w s S).bind fun s1 S1 => gs ws s1 S1 := rfl
end
section
variable {s : Env'} {S : Store} {w w1 w2 : W} {ws us : List W} {i j : Nat} {g g' : W → W → Store → Res W} {ma mb mc : SM W} {na nb : SM Bool} {m ms : SS} {mr : SM (List W)} {f : List W → Store → Res W} {gm : GM}
@[simp] theorem mBin_eq : mBin g ma mb s S = (ma s S).bind fun x S1 => (mb s S1).bind fun y S2 => g x y S2 := rfl
@[simp] theorem mUn_eq {g : W → Store → Res W} : mUn g ma s S = (ma s S).bind g := rfl
@[simp] theorem mTru_eq : mTru ma s S = (ma s S).bind fun w S1 => match truW S1 w with
  | some b => .ok b S1
  | none => .bad := rfl
@[simp] theorem asB_ok {b : Bool} : asB (.ok (.bl b) S) = .ok b S := rfl
@[simp] theorem mBT_eq : mBT g ma mb s S = (ma s S).bind fun x S1 => (mb s S1).bind fun y S2 => asB (g x y S2) := by
  unfold mBT mBin asB
  cases ma s S with
  | ok a S1 => dsimp [Res.bind]; cases mb s S1 <;> rfl
  | _ => rfl
@[simp] theorem mAndT_eq : mAndT na nb s S = (na s S).bind fun c S1 => if c = true then nb s S1 else .ok false S1 := rfl
@[simp] theorem mOrT_eq : mOrT na nb s S = (na s S).bind fun c S1 => if c = true then .ok true S1 else nb s S1 := rfl
@[simp] theorem mNotT_eq : mNotT na s S = (na s S).bind fun c S1 => .ok (!c) S1 := rfl
noncomputable def andV (ma : SM W) (s : Env') (w : W) (S : Store) : Res W := match w with
  | .bl true => ma s S
  | .bl false => .ok (.bl false) S
  | _ => .bad
noncomputable def orV (ma : SM W) (s : Env') (w : W) (S : Store) : Res W := match w with
  | .bl true => .ok (.bl true) S
  | .bl false => ma s S
  | _ => .bad
@[simp] theorem mAndV_eq : mAndV ma mb s S = (ma s S).bind (andV mb s) := rfl
@[simp] theorem mOrV_eq : mOrV ma mb s S = (ma s S).bind (orV mb s) := rfl
@[simp] theorem andV_bl {b : Bool} : andV ma s (.bl b) S = if b = true then ma s S else .ok (.bl false) S := by cases b <;> rfl
@[simp] theorem orV_bl {b : Bool} : orV ma s (.bl b) S = if b = true then .ok (.bl true) S else ma s S := by cases b <;> rfl
@[simp] theorem mIfE_eq : mIfE na ma mb s S = (na s S).bind fun k S1 => if k = true then ma s S1 else mb s S1 := rfl
noncomputable def chV (g' : W → W → Store → Res W) (mc : SM W) (s : Env') (y z : W) (S : Store) : Res W := match z with
  | .bl true => (mc s S).bind fun w S4 => g' y w S4
  | .bl false => .ok (.bl false) S
  | _ => .bad
@[simp] theorem mChain_eq : mChain g g' ma mb mc s S = (ma s S).bind fun x S1 => (mb s S1).bind fun y S2 => (g x y S2).bind (chV g' mc s y) := rfl
@[simp] theorem chV_bl {b : Bool} : chV g' mc s w (.bl b) S = if b = true then (mc s S).bind fun u S4 => g' w u S4 else .ok (.bl false) S := by cases b <;> rfl
@[simp] theorem mChT_eq : mChT g g' ma mb mc s S = asB ((ma s S).bind fun x S1 => (mb s S1).bind fun y S2 => (g x y S2).bind (chV g' mc s y)) := rfl
@[simp] theorem asB_bind {α : Type} {r : Res α} {k : α → Store → Res W} : asB (r.bind k) = r.bind fun a S => asB (k a S) := by cases r <;> rfl
@[simp] theorem asB_ite {c : Prop} [Decidable c] {a b : Res W} : asB (if c then a else b) = if c then asB a else asB b := by split <;> rfl
@[simp] theorem mPart_eq : mPart ma s S = (ma s S).bind fun w S1 => match w with
  | .int i => .ok (some i) S1
  | _ => .bad := rfl
@[simp] theorem mSl_eq {ml mh : SM (Option Int)} : mSl ma ml mh s S = (ma s S).bind fun w S1 => (ml s S1).bind fun lo S2 => (mh s S2).bind fun hi S3 => gSl w lo hi S3 := rfl
@[simp] theorem mCons_eq : mCons ma mr s S = (ma s S).bind fun w S1 => (mr s S1).bind fun ws S2 => .ok (w :: ws) S2 := rfl
@[simp] theorem mAp_eq : mAp f mr s S = (mr s S).bind f := rfl
@[simp] theorem g1_eq {g : W → Store → Res W} : g1 g [w] S = g w S := rfl
noncomputable def seqK (ms : SS) (p : Fl × Env') (S : Store) : Res (Fl × Env') := match p with
  | (.nx, s1) => ms s1 S
  | p => .ok p S
@[simp] theorem mSeq_eq : mSeq m ms s S = (m s S).bind (seqK ms) := rfl
@[simp] theorem seqK_nx : seqK ms (.nx, s) S = ms s S := rfl
@[simp] theorem seqK_rt : seqK ms (.rt w, s) S = .ok (.rt w, s) S := rfl
@[simp] theorem seqK_bk : seqK ms (.bk, s) S = .ok (.bk, s) S := rfl
@[simp] theorem seqK_ct : seqK ms (.ct, s) S = .ok (.ct, s) S := rfl
@[simp] theorem mExpr_eq : mExpr ma s S = (ma s S).bind fun _ S1 => .ok (.nx, s) S1 := rfl
@[simp] theorem mRet_eq : mRet ma s S = (ma s S).bind fun w S1 => .ok (.rt w, s) S1 := rfl
@[simp] theorem mIf_eq : mIf na m ms s S = (na s S).bind fun b S1 => if b = true then m s S1 else ms s S1 := rfl
@[simp] theorem mAsg_eq : mAsg ma gm s S = (ma s S).bind fun w S1 => (gm w s S1).bind fun s' S2 => .ok (.nx, s') S2 := rfl
noncomputable def parK (i j : Nat) (s : Env') (ws : List W) (S : Store) : Res (Fl × Env') := match ws with
  | [v, w] => .ok (.nx, (s.set i (some v)).set j (some w)) S
  | _ => .bad
@[simp] theorem mPar_eq : mPar i j mr s S = (mr s S).bind (parK i j s) := rfl
@[simp] theorem parK_eq : parK i j s [w1, w2] S = .ok (.nx, (s.set i (some w1)).set j (some w2)) S := rfl
@[simp] theorem mAug_eq : mAug i g ma s S = match s[i]? with
  | some (some x) => (ma s S).bind fun y S1 => (g x y S1).bind fun z S2 => .ok (.nx, s.set i (some z)) S2
  | _ => .bad := rfl
@[simp] theorem gSubI_eq {v : W} : gSubI ma mb v s S = (ma s S).bind fun o S1 => (mb s S1).bind fun i S2 => (gSetI o i v S2).bind fun _ S3 => .ok s S3 := rfl
@[simp] theorem mFor_eq {mi : SM ItW} : mFor mi gm m s S = (mi s S).bind fun it S1 => mForI it gm m s S1 := rfl
@[simp] theorem mForI_fix : mForI (.fix ws) gm m s S = mForL gm m ws s S := rfl
@[simp] theorem mLc_eq {mi : SM ItW} {vs : List Nat} : mLc mi vs gm na ma s S = (mi s S).bind fun it S1 => (mLcI it gm na ma (wipeW s vs) S1).bind fun acc S2 => .ok (.lst acc) S2 := rfl
@[simp] theorem mLcI_fix : mLcI (.fix ws) gm na ma s S = mLcL gm na ma s ws [] S := rfl
@[simp] theorem mCallK_eq {idx : List Nat} {g : Fn} {mr mk : SM (List W)} : mCallK idx g mr mk s S = (mr s S).bind fun us S1 => (mk s S1).bind fun ws S2 => g (pIdx idx (us ++ ws)) S2 := rfl
/- operators at values -/
@[simp] theorem gAdd_int {i j : Int} : gAdd (.int i) (.int j) S = .ok (.int (i + j)) S := rfl
@[simp] theorem gAdd_str {x y : Str} : gAdd (.str x) (.str y) S = if x.length + y.length ≤ lim then .ok (.str (x ++ y)) S else .bad := rfl
@[simp] theorem gAdd_lst : gAdd (.lst ws) (.lst us) S = if ws.length + us.length ≤ lim then .ok (.lst (ws ++ us)) S else .bad := rfl
@[simp] theorem gI_eq {f : Int → Int → Int} {i j : Int} : gI f (.int i) (.int j) S = .ok (.int (f i j)) S := rfl
@[simp] theorem gIc_eq {c : Int → Int → Bool} {f : Int → Int → Int} {i j : Int} : gIc c f (.int i) (.int j) S = if c i j = true then .ok (.int (f i j)) S else .bad := rfl
@[simp] theorem gIb_eq {f : Int → Int → Bool} {i j : Int} : gIb f (.int i) (.int j) S = .ok (.bl (f i j)) S := rfl
@[simp] theorem gMul_int {i j : Int} : gMul (.int i) (.int j) S = if cMul i j = true then .ok (.int (i * j)) S else .bad := rfl
@[simp] theorem gMul_lst {k : Int} : gMul (.lst ws) (.int k) S = if -(2 ^ 63) ≤ k ∧ k < 2 ^ 63 ∧ ws.length * k.toNat ≤ lim then .ok (.lst (List.replicate k.toNat ws).flatten) S else .bad := rfl
@[simp] theorem gEq_str {n : Bool} {x y : Str} : gEq n (.str x) (.str y) S = .ok (.bl (xorB n (decide (x = y)))) S := rfl
@[simp] theorem gEq_int {n : Bool} {x y : Int} : gEq n (.int x) (.int y) S = .ok (.bl (xorB n (decide (x = y)))) S := rfl
@[simp] theorem gEq_bl {n : Bool} {x y : Bool} : gEq n (.bl x) (.bl y) S = .ok (.bl (xorB n (decide (x = y)))) S := rfl
@[simp] theorem xorB_t {b : Bool} : xorB true b = !b := rfl
@[simp] theorem xorB_f {b : Bool} : xorB false b = b := rfl
@[simp] theorem gIs_non {n : Bool} : gIs n w .non S = .ok (.bl (xorB n (isNonW w))) S := rfl
@[simp] theorem gIs_bl {n a b : Bool} : gIs n (.bl a) (.bl b) S = .ok (.bl (xorB n (decide (a = b)))) S := rfl
@[simp] theorem gTup_eq : gTup ws S = if ws.length ≤ lim then .ok (.tup ws) S else .bad := rfl
@[simp] theorem gLst_eq : gLst ws S = if ws.length ≤ lim then .ok (.lst ws) S else .bad := rfl
@[simp] theorem gLstR_eq : gLstR ws S = if ws.length ≤ lim then .ok (.ref S.length) (S ++ [.lst ws]) else .bad := rfl
@[simp] theorem gInt_int {i : Int} : gInt (.int i) S = .ok (.int i) S := rfl
@[simp] theorem gLen_str {x : Str} : gLen (.str x) S = if x.length ≤ lim then .ok (.int x.length) S else .bad := rfl
@[simp] theorem gLen_tup : gLen (.tup ws) S = .ok (.int ws.length) S := rfl
@[simp] theorem gLen_lst : gLen (.lst ws) S = .ok (.int ws.length) S := rfl
@[simp] theorem gLen_flst : gLen (.flst ws) S = .ok (.int ws.length) S := rfl
@[simp] theorem gListOf_lst : gListOf (.lst ws) S = .ok (.lst ws) S := rfl
@[simp] theorem gListOf_flst : gListOf (.flst ws) S = .ok (.lst ws) S := rfl
@[simp] theorem gListOf_tup : gListOf (.tup ws) S = .ok (.lst ws) S := rfl
@[simp] theorem gSl_str {x : Str} {lo hi : Option Int} : gSl (.str x) lo hi S = if x.length ≤ lim then .ok (.str (cutS x lo hi)) S else .bad := rfl
@[simp] theorem gSl_tup {lo hi : Option Int} : gSl (.tup ws) lo hi S = .ok (.tup (cutW ws lo hi)) S := rfl
@[simp] theorem gSl_lst {lo hi : Option Int} : gSl (.lst ws) lo hi S = .ok (.lst (cutW ws lo hi)) S := rfl
@[simp] theorem gSl_flst {lo hi : Option Int} : gSl (.flst ws) lo hi S = .ok (.lst (cutW ws lo hi)) S := rfl
@[simp] theorem litl_le {n : Nat} : (no_index (OfNat.ofNat n : Nat) ≤ lim) ↔ (OfNat.ofNat n : Nat) ≤ 16777216 := Iff.rfl
@[simp] theorem litl_lt {n : Nat} : (no_index (OfNat.ofNat n : Nat) < lim) ↔ (OfNat.ofNat n : Nat) < 16777216 := Iff.rfl
theorem atI_nat {α : Type} {xs : List α} {i : Int} (h0 : 0 ≤ i) : atI xs i = xs[i.toNat]? := by
  unfold atI ixN
  rw [if_pos h0]
  by_cases h : i < xs.length
  · rw [if_pos h]; rfl
  · rw [if_neg h, List.getElem?_eq_none (by omega)]; rfl
@[simp] theorem seqL_ref {l : Nat} : seqL S (.ref l) = lstAt S l := rfl
@[simp] theorem seqL_lst : seqL S (.lst ws) = some ws := rfl
@[simp] theorem seqL_flst : seqL S (.flst ws) = some ws := rfl
@[simp] theorem gIx_ref' {l : Nat} {i : Int} : gIx (.ref l) (.int i) S = match (lstAt S l).bind fun ws => atI ws i with
  | some w => .ok w S
  | none => .bad := rfl
@[simp] theorem gIx_lst' {i : Int} : gIx (.lst ws) (.int i) S = match atI ws i with
  | some w => .ok w S
  | none => .bad := rfl
@[simp] theorem gIx_flst' {i : Int} : gIx (.flst ws) (.int i) S = match atI ws i with
  | some w => .ok w S
  | none => .bad := rfl
@[simp] theorem gIx_tup' {i : Int} : gIx (.tup ws) (.int i) S = match atI ws i with
  | some w => .ok w S
  | none => .bad := rfl
theorem gSetI_eq {l : Nat} {i : Int} : gSetI (.ref l) (.int i) w S = match lstAt S l with
  | some ws => (match ixN ws.length i with
    | some j => .ok () (S.set l (.lst (ws.set j w)))
    | none => .bad)
  | none => .bad := by
  dsimp only [gSetI, lstAt]
  generalize S[l]? = z
  rcases z with _ | o
  · rfl
  · cases o <;> rfl
@[simp] theorem lstAt_set {l : Nat} (h : l < S.length) : lstAt (S.set l (.lst ws)) l = some ws := by
  unfold lstAt; rw [List.getElem?_set_self h]
theorem lstAt_get {l : Nat} (h : S[l]? = some (.lst ws)) : lstAt S l = some ws := by unfold lstAt; rw [h]
@[simp] theorem atI_lit {α : Type} {xs : List α} {n : Nat} : atI xs (no_index (OfNat.ofNat n) : Int) = xs[(OfNat.ofNat n : Nat)]? := by
  show atI xs (Int.ofNat n) = xs[n]?
  exact atI_nat (i := Int.ofNat n) (Int.natCast_nonneg n)
end
/-! ### texts by their signs -/
noncomputable def tx (l : List Nat) : Str := ⟨l.toArray⟩
section
variable {a b : List Nat} {S : Store} {i : Int} {s : Env'}
@[simp] theorem tx_len : (tx a).length = a.length := SX.S_len a
@[simp] theorem tx_cat : tx a ++ tx b = tx (a ++ b) := SX.S_cat a b
@[simp] theorem tx_inj : (tx a = tx b) ↔ a = b := ⟨SX.S_inj, fun h => by rw [h]⟩
@[simp] theorem tx_sign {c : Nat} : (⟨#[c]⟩ : Str) = tx [c] := rfl
@[simp] theorem tx_list : (tx a).cps.toList = a := by simp [tx]
@[simp] theorem tx_size : (tx a).cps.size = a.length := by simp [tx]
theorem lit_eq {x : String} {a : List Nat} (h : (x.toList.map Char.toNat) = a) : Str.ofString x = tx a := by rw [Str.ofString_eq_toList, h]; rfl
@[simp] theorem cut_to (h : 0 ≤ i) : cutS (tx a) none (some i) = tx (a.take i.toNat) := by
  rw [C8.cutS_slice]; exact SX.slice_to h
@[simp] theorem cut_from (h : 0 ≤ i) : cutS (tx a) (some i) none = tx (a.drop i.toNat) := by
  rw [C8.cutS_slice]; exact SX.slice_from h
@[simp] theorem signs_tx : signs (tx a) = a.map fun c => .str (tx [c]) := by simp [signs]
@[simp] theorem gIx_str' {x : Str} : gIx (.str x) (.int i) S = if x.length ≤ lim then (match atI x.cps.toList i with
  | some c => .ok (.str (tx [c])) S
  | none => .bad) else .bad := rfl
theorem gIn_sign {n : Bool} {c : Nat} : gIn n (.str (tx [c])) (.str (tx a)) S = .ok (.bl (xorB n (decide (c ∈ a)))) S := by
  show Res.ok (W.bl (xorB n (!(Builtin.Str.occurrences (SX.S a) (SX.S [c]) 0 (SX.S a).length 1).isEmpty))) S = _
  rw [SX.in_one]
theorem gIn_strs {n : Bool} {x : Str} : ∀ {w : W} {ys : List Str}, (tupL w).or (seqL S w) = some (ys.map W.str) → gIn n (.str x) w S = .ok (.bl (xorB n (decide (x ∈ ys)))) S := by
  intro w ys h
  have h1 : (ys.map W.str).all flatW = true := by rw [List.all_map, List.all_eq_true]; intro _ _; rfl
  have h2 : inW (.str x) (ys.map W.str) = decide (x ∈ ys) := by
    unfold inW
    rw [List.any_map, Bool.eq_iff_iff, List.any_eq_true, decide_eq_true_eq]
    exact ⟨fun ⟨y, hy, e⟩ => by rw [← eq_of_beq (show (y == x) = true from e)]; exact hy, fun hx => ⟨x, hx, beq_self_eq_true x⟩⟩
  cases w with
  | str y => simp [tupL, seqL] at h
  | _ => simp only [gIn, h, h1, h2, flatW, and_self, if_true]
@[simp] theorem strsW_map {ys : List (List Nat)} : strsW (ys.map fun y => .str (tx y)) = some (ys.map tx) := by
  induction ys with
  | nil => rfl
  | cons y r ih => simp [strsW, ih]
@[simp] theorem gJoin_eq {x : Str} {w : W} : gJoin x w S = match (seqA S w).bind strsW with
  | some ys => if (ys.map (·.length)).sum + ys.length * x.length ≤ lim then .ok (.str (Txt.join x ys)) S else .bad
  | none => .bad := rfl
@[simp] theorem mM1_eq {g : Str → W → Store → Res W} {mo me : SM W} : mM1 g mo me s S = (mo s S).bind fun o S1 => match o with
  | .str a => (me s S1).bind fun w S2 => g a w S2
  | _ => .bad := rfl
end
/-! ### comprehensions -/
section
variable {α : Type} {g : GM} {t : SM Bool} {e : SM W} {s0 : Env'} {S : Store}
@[simp] theorem nox_ok {a : α} : nox (.ok a S) = .ok a S := rfl
@[simp] theorem ev_nox {r : Res α} {Q : α → Store → Prop} : Ev (nox r) Q ↔ Ev r Q := by
  cases r with
  | exc c ns ws S => exact ⟨fun ⟨_, _, e, _⟩ => (nomatch e), fun ⟨_, _, e, _⟩ => (nomatch e)⟩
  | _ => exact Iff.rfl
@[simp] theorem mLcL_nil {acc : List W} : mLcL g t e s0 [] acc S = .ok acc S := rfl
@[simp] theorem mLcL_cons {w : W} {r acc : List W} : mLcL g t e s0 (w :: r) acc S = (mLcT g t e s0 w acc S).bind fun acc S => mLcL g t e s0 r acc S := rfl
@[simp] theorem mLcT_eq {w : W} {acc : List W} : mLcT g t e s0 w acc S = (nox (g w s0 S)).bind fun s1 S1 => (nox (t s1 S1)).bind fun b S2 => if b = true then (nox (e s1 S2)).bind fun y S3 => if acc.length < lim then .ok (acc ++ [y]) S3 else .bad else .ok acc S2 := rfl
/-- where nothing is changed -/
theorem lcL_pure (f : W → W) : ∀ (ws acc : List W), acc.length + ws.length ≤ lim → (∀ w, w ∈ ws → ∃ s1, g w s0 S = .ok s1 S ∧ e s1 S = .ok (f w) S) → mLcL g mYes e s0 ws acc S = .ok (acc ++ ws.map f) S
  | [], acc, _, h => by simp
  | w :: r, acc, hl, h => by
    obtain ⟨s1, h1, h2⟩ := h w List.mem_cons_self
    rw [List.length_cons] at hl
    have hl' : acc.length < lim := by omega
    simp only [mLcL_cons, mLcT_eq, h1, nox_ok, ok_bind, mYes_eq, h2, if_true, hl']
    rw [lcL_pure f r (acc ++ [f w]) (by rw [List.length_append, List.length_singleton]; omega) fun w' m => h w' (List.mem_cons_of_mem _ m)]
    simp
@[simp] theorem mItems_eq {m : SM W} {s : Env'} : mItems m s S = (m s S).bind fun w S1 => match w with
  | .lst ws => .ok (.fix ws) S1
  | .flst ws => .ok (.fix ws) S1
  | .tup ws => .ok (.fix ws) S1
  | .str x => .ok (.fix (signs x)) S1
  | .ref l => match lstAt S1 l with
    | some _ => .ok (.gen (nxL l)) S1
    | none => .bad
  | _ => .bad := rfl
noncomputable def rng1 (ws : List W) (S1 : Store) : Res ItW := match ws with
  | [.int j] => if okR j = true then .ok (.fix (rngW 0 j.toNat)) S1 else .bad
  | _ => .bad
noncomputable def rng2 (ws : List W) (S1 : Store) : Res ItW := match ws with
  | [.int i, .int j] => if okR i = true ∧ okR j = true then .ok (.fix (rngW i (j - i).toNat)) S1 else .bad
  | _ => .bad
noncomputable def zipK (ws : List W) (S1 : Store) : Res ItW := match ws with
  | [w, w'] => match itL w, itL w' with
    | some a, some b => .ok (.fix (zipW a b)) S1
    | _, _ => match tupL w, tupL w' with
      | some a, some b => .ok (.fix (zipW a b)) S1
      | _, _ => zipG w w' S1
  | _ => .bad
@[simp] theorem mRange1_eq {mr : SM (List W)} {s : Env'} : mRange1 mr s S = (mr s S).bind rng1 := rfl
@[simp] theorem mRange2_eq {mr : SM (List W)} {s : Env'} : mRange2 mr s S = (mr s S).bind rng2 := rfl
@[simp] theorem mZip_eq {mr : SM (List W)} {s : Env'} : mZip mr s S = (mr s S).bind zipK := rfl
@[simp] theorem rng1_eq {j : Int} : rng1 [.int j] S = if okR j = true then .ok (.fix (rngW 0 j.toNat)) S else .bad := rfl
@[simp] theorem rng2_eq {i j : Int} : rng2 [.int i, .int j] S = if okR i = true ∧ okR j = true then .ok (.fix (rngW i (j - i).toNat)) S else .bad := rfl
@[simp] theorem zipK_lst {a b : List W} : zipK [.lst a, .lst b] S = .ok (.fix (zipW a b)) S := rfl
@[simp] theorem zipK_tup {a b : List W} : zipK [.tup a, .tup b] S = .ok (.fix (zipW a b)) S := rfl
end
/-! ### calls -/
section
variable {S : Store} {n : Nat} {m : SS} {ws : List W}
noncomputable def runK (p : Fl × Env') (S1 : Store) : Res W := match p with
  | (.nx, _) => .ok .non S1
  | (.rt w, _) => .ok w S1
  | _ => .bad
theorem runB_eq : runB n m ws S = (m (startW n ws) S).bind runK := rfl
@[simp] theorem runK_nx {s : Env'} : runK (.nx, s) S = .ok .non S := rfl
@[simp] theorem runK_rt {s : Env'} {w : W} : runK (.rt w, s) S = .ok w S := rfl
end
end RL
end
section
set_option maxRecDepth 100000
set_option maxHeartbeats 2000000
namespace RL
open PySem PySem.Spec L2 OrdX
open PyProof.Rows hiding St
/-! ### loops, by invariants -/
section
variable {g : GM} {m : SS} {s : Env'} {S : Store} {ws : List W} {w : W} {it : ItW}
theorem forL_ev (J : List W → Env' → Store → Prop) (step : ∀ w r s S, J (w :: r) s S → Ev (g w s S) fun s1 S1 => Ev (m s1 S1) fun p S2 => p.1 = .nx ∧ J r p.2 S2) :
    ∀ (ws : List W) (s : Env') (S : Store), J ws s S → Ev (mForL g m ws s S) fun p S' => p.1 = .nx ∧ J [] p.2 S'
  | [], s, S, h => Ev.ok ⟨rfl, h⟩
  | w :: r, s, S, h => by
    show Ev ((g w s S).bind fun s1 S1 => (m s1 S1).bind fun p S2 => _) _
    rw [ev_bind]
    refine (step w r s S h).mono fun s1 S1 h1 => ?_
    rw [ev_bind]
    refine h1.mono fun p S2 ⟨h2, h3⟩ => ?_
    obtain ⟨f, s2⟩ := p
    cases h2
    exact forL_ev J step r s2 S2 h3
end
/-! ### in -/
end RL
end
section
set_option maxRecDepth 100000
set_option maxHeartbeats 4000000
namespace RL
open PySem PySem.Spec L2
open PyProof.Rows hiding St
section
variable {s : Env'} {S : Store} {w w1 w2 : W} {ws us : List W} {ma mb mo md mk mv mx mi : SM W} {mr : SM (List W)} {c f m : Str} {g : Fn} {ns : List Str}
noncomputable def methK (c m : Str) (g : Fn) (mr : SM (List W)) (s : Env') (w : W) (S1 : Store) : Res W := match insAt S1 w with
  | some (c', ns, _) => if c' = c ∧ ns.contains m = false then (mr s S1).bind fun ws S2 => g (w :: ws) S2 else .bad
  | none => .bad
@[simp] theorem mMeth_eq : mMeth c m g mo mr s S = (mo s S).bind (methK c m g mr s) := rfl
@[simp] theorem methK_ins {c' : Str} : methK c m g mr s (.ins c' ns ws) S = if c' = c ∧ ns.contains m = false then (mr s S).bind fun us S2 => g (.ins c' ns ws :: us) S2 else .bad := rfl
@[simp] theorem gFld_ins {c' : Str} : gFld c f (.ins c' ns ws) S = if c' = c then (match (ns.zip ws).lookup f with
    | some v => .ok v S
    | none => .bad) else .bad := rfl
@[simp] theorem gMake_eq : gMake c ns ws S = if ws.length = ns.length then .ok (.ins c ns ws) S else .bad := rfl
@[simp] theorem gStar_eq {np : Nat} : gStar np g ws S = if np ≤ ws.length ∧ ws.length ≤ lim then g (ws.take np ++ [.tup (ws.drop np)]) S else .bad := rfl
@[simp] theorem isIns_ins {c' : Str} : isIns c (.ins c' ns ws) = (c' == c) := rfl
@[simp] theorem isIns_str {x : Str} : isIns c (.str x) = false := rfl
@[simp] theorem isIns_int {x : Int} : isIns c (.int x) = false := rfl
@[simp] theorem isStr_ins {c' : Str} : isStr (.ins c' ns ws) = false := rfl
@[simp] theorem isStr_str {x : Str} : isStr (.str x) = true := rfl
@[simp] theorem mFmt_eq : mFmt ma s S = (ma s S).bind fun w S1 => match w with
  | .str y => if y.length ≤ lim then .ok (.str y) S1 else .bad
  | _ => .bad := rfl
@[simp] theorem mJs_nil {acc : Str} : mJs [] acc s S = .ok (.str acc) S := rfl
@[simp] theorem mJs_cons {ms : List (SM W)} {acc : Str} : mJs (ma :: ms) acc s S = (ma s S).bind fun w S1 => match w with
    | .str y => if (acc ++ y).length ≤ lim then mJs ms (acc ++ y) s S1 else .bad
    | _ => .bad := rfl
@[simp] theorem mJoined_eq {ms : List (SM W)} : mJoined ms s S = mJs ms (tx []) s S := rfl
@[simp] theorem mStar_eq : mStar ma mr s S = (ma s S).bind fun w S1 => match seqA S1 w with
  | some ws => (mr s S1).bind fun us S2 => .ok (ws ++ us) S2
  | none => .bad := rfl
@[simp] theorem mNever_eq : mNever s S = .bad := rfl
@[simp] theorem seqA_lst : seqA S (.lst ws) = some ws := rfl
@[simp] theorem seqA_tup : seqA S (.tup ws) = some ws := rfl
noncomputable def cdK (tab : List (Str × Str)) (k : W) (S1 : Store) : Res W := match k with
  | .str z => match tab.lookup z with
    | some v => .ok (.str v) S1
    | none => .bad
  | _ => .bad
@[simp] theorem mCDict_eq {tab : List (Str × Str)} : mCDict tab mi s S = (mi s S).bind (cdK tab) := rfl
@[simp] theorem cdK_str {tab : List (Str × Str)} {z : Str} : cdK tab (.str z) S = match tab.lookup z with
    | some v => .ok (.str v) S
    | none => .bad := rfl
@[simp] theorem mDNewR_eq : mDNewR s S = .ok (.ref S.length) (S ++ [dicO []]) := rfl
@[simp] theorem mDisp_eq {mp : SM (List (W × W))} : mDisp mp s S = (mp s S).bind gDisp := rfl
@[simp] theorem mPNil_eq : mPNil s S = .ok [] S := rfl
@[simp] theorem mPCons_eq {mp : SM (List (W × W))} : mPCons mk mv mp s S = (mk s S).bind fun k S1 => (mv s S1).bind fun v S2 => (mp s S2).bind fun r S3 => .ok ((k, v) :: r) S3 := rfl
@[simp] theorem mDPut_eq : mDPut md mk mv s S = (mv s S).bind fun v S1 => (md s S1).bind fun d S2 => (mk s S2).bind fun k S3 => (gDPut d k v S3).bind fun _ S4 => .ok (.nx, s) S4 := rfl
noncomputable def metDK (g : W → List W → Store → Res W) (mr : SM (List W)) (s : Env') (o : W) (S1 : Store) : Res W := match dicM S1 o with
  | some _ => (mr s S1).bind fun ws S2 => g o ws S2
  | none => .bad
@[simp] theorem dicM_ref {S : Store} {l : Nat} : dicM S (.ref l) = dicAt S (.ref l) := rfl
@[simp] theorem gMetD_eq {g : W → List W → Store → Res W} : gMetD g mo mr s S = (mo s S).bind (metDK g mr s) := rfl
theorem dicO_at {kws : KW} {l : Nat} (h : S[l]? = some (dicO kws)) : dicL S l = some kws := by
  unfold dicL dicO at *
  rw [h]
  simp only [List.length_map, if_true, zip_unzip]
theorem dicAt_ref {l : Nat} : dicAt S (.ref l) = dicL S l := rfl
@[simp] theorem dicAt_T {kws : KW} : dicAt S (dicT kws) = some kws := by
  unfold dicT
  simp only [dicAt, List.length_map, if_true, zip_unzip]
@[simp] theorem keyW_str {x : Str} : keyW (.str x) = some (.inr x) := rfl
end
end RL
end
section
set_option maxRecDepth 100000
set_option maxHeartbeats 4000000
/-! makers of the text facts of own exceptions -/
namespace RL
open PySem PySem.Spec L2 OrdX
open PyProof.Rows hiding St
variable [Lams]
/-- what the def of an __init__ says by itself -/
structure StX (st : Stmt) (slf : Str) (ps : List Str) (l : List (Str × (Str ⊕ Str))) : Prop where
  body : ∃ x j p0 p1 p2 p3 p4 p5 rest, defBody st = .Expr (.Call (.Attribute (.Call (.Name "super" p0) [] [] p1) "__init__" p2) [.Constant (.str x) j p3] [] p4) p5 :: rest ∧ REX.Asn slf rest l ∧
    ∀ env : Env, ∃ pl : Sem Bool, eval (.Call (.Attribute (.Call (.Name "super" p0) [] [] p1) "__init__" p2) [.Constant (.str x) j p3] [] p4) env = (do
      let ov ← attributeBase (.Call (.Name "super" p0) [] [] p1) "__init__" env (eval (.Call (.Name "super" p0) [] [] p1) env)
      standAt p2.atName
      let (f, first) ← holding [ov] (getMethod ov "__init__" pl)
      callWith p4 f first (backTo p4 (starEach [.Constant (.str x) j p3] env)) [])
  par : ∃ ar, ((defArgs st).posonlyargs ++ (defArgs st).args).head? = some ar ∧ ar.arg = slf
  nd : (slf :: ps).Nodup
  kind : (defScope st).kind = .function
  co : (defScope st).isCoroutine = false
  gen : (defScope st).isGenerator = false
  nocell : ∀ y ∈ (defScope st).names, y.2 ≠ .cell
  loc : ∀ y ∈ slf :: ps, (defScope st).names.lookup y = some .local ∧ (y == ("__debug__" : Str)) = false
  sup2 : (defScope st).names.lookup ("super" : Str) = some .globalImplicit
  cls2 : (defScope st).names.lookup ("__class__" : Str) = some .free
  few : l.length ≤ 900
  psFew : (slf :: ps).length ≤ 900
  bd : ∀ (q : Str) (kV doc pm : Value) (an : Option Addr) (cd ct : Value) (cc : Addr) (us : List Value), us.length = (slf :: ps).length → bindArgs (PySem.W.ksFn "__init__" q (defArgs st) (defBody st) (defScope st) .none kV doc pm an cd ct cc) ⟨us, []⟩ = pure ((slf :: ps).zip us)
  ne : l ≠ []
  hpar : ∀ z ∈ l, ∀ y, z.2 = .inr y → y ∈ ps
theorem hpar_of {l : List (Str × (Str ⊕ Str))} {ps : List Str} (h : (l.all fun z => match z.2 with | .inr y => ps.contains y | .inl _ => true) = true) : ∀ z ∈ l, ∀ y, z.2 = .inr y → y ∈ ps := by
  intro z m y e
  have := List.all_eq_true.mp h z m
  rw [e] at this
  exact List.contains_iff_mem.mp this
/-- a built-in base -/
structure BasX (B newId initId : String) (bmB : List Value) : Prop where
  kf : PySem.W.KxsFacts B initId
  fb : ExcBaseFacts B newId initId bmB
  sf : StoreFacts B bmB "object.__setattr__" "object"
section
variable {K : PySem.W.Frag} {mg : Str → Option Value} {h : Heap} {c q fl slf : Str} {C f cda cc : Addr} {B newId initId : String} {bmB : List Value} {st : Stmt} {ps : List Str} {l : List (Str × (Str ⊕ Str))} {oc ccl cl kV dc pm ct : Value} {od an cdd cld : Option Addr} {osl ccs csl : Array (Option Value)} {vs : Array Value} {tf : Tok}
theorem xtx_mk (bx : BasX B newId initId bmB) (sx : StX st slf ps l) (X : K.In h) (G : h.Ns mainGlobals mg) (a : PySem.W.nsIn K mainGlobals c = some (some (.ref C))) (iC : PySem.W.findIn K (.ref C) "__init__" = some (some (.ref f))) (tI : PySem.W.typeIn K (.ref f) = some (.type "function")) (kC : PySem.W.keepIn K (.ref C) = true)
    (over : PySem.W.excOver K C bmB = true) (ini : PySem.W.excInitIn K C bmB newId = true) (sup : PySem.W.ks_superIn K C C "__init__" = some (some (.builtin initId))) (dict : PySem.W.hasDictIn K C = true)
    (sa : PySem.W.findIn K (.ref C) "__setattr__" = some (some (.builtin "object.__setattr__"))) (sub : PySem.W.subIn K (.ref C) (.type B) = some true) (any : PySem.W.nsIn K cStatics "thirdparty.any" = some none) (own : PySem.W.mroIn K C (.ref C) = some true)
    (lk : K.lookup f = some ⟨oc, od, .func (PySem.W.ksFn "__init__" q (defArgs st) (defBody st) (defScope st) .none kV dc pm an (.ref cda) ct cc), osl⟩) (cod : PySem.W.codeIn K (.ref cda) q = true) (fl1 : K.lookup cda = some ⟨ccl, cdd, .fields vs, ccs⟩) (fl2 : vs[2]? = some (.str fl tf))
    (cell : K.lookup cc = some ⟨cl, cld, .cell (some (.ref C)), csl⟩) (tk : ∀ z ∈ l, PySem.W.takerIn K C z.1 = some none) : XTx K mg c st slf ps l fl := by
  obtain ⟨cd, hcd, hdd⟩ := PySem.W.any_some dict
  refine ⟨C, f, cda, cc, B, newId, initId, bmB, q, PySem.W.mg_of X G a, iC, tI, kC, ⟨⟨over, sa, cd, hcd, hdd⟩, ini, sup, sub, any, own, ⟨oc, od, kV, dc, pm, an, ct, osl, lk⟩, sx.bd q, cod, ⟨ccl, cdd, vs, ccs, tf, fl1, fl2⟩, ⟨cl, cld, csl, cell⟩, sx.body, sx.par, ⟨ps, rfl⟩, sx.nd, sx.kind, sx.co, sx.gen, sx.nocell, sx.loc, sx.sup2, sx.cls2, fun z m => ⟨tk z m, fun y e => List.mem_cons_of_mem _ (sx.hpar z m y e)⟩, sx.few, sx.psFew⟩, bx.kf, bx.fb, bx.sf, sx.ne, sx.hpar⟩
end
theorem bas_VE : BasX "ValueError" "ValueError.__new__" "ValueError.__init__" [.type "ValueError", .type "Exception", .type "BaseException", .type "object"] := ⟨PySem.W.kxs_ValueError, F.excBase_ValueError, F.store_ValueError⟩
/-- an exception's class by its name -/
noncomputable def XcT (K : PySem.W.Frag) (mg : Str → Option Value) (c : Str) : Prop := ∃ C, mg c = some (.ref C) ∧ XiC K C
section
variable {K : PySem.W.Frag} {mg : Str → Option Value} {h : Heap} {c d f : Str} {C D : Addr} {cs : List Str} {b : Bool} {n : String} {tg : List (Str × Str × Bool)} {tt : List (Str × String × Bool)}
theorem xct_mk (X : K.In h) (G : h.Ns mainGlobals mg) (a : PySem.W.nsIn K mainGlobals c = some (some (.ref C))) (ga : PySem.W.findIn K (.ref C) "__getattribute__" = some (some (.builtin "BaseException.__getattribute__"))) (gg : PySem.W.findIn K (.ref C) "__getattr__" = some none)
    (ex : PySem.W.subIn K (.ref C) (.type "BaseException") = some true) (hd : PySem.W.hasDictIn K C = true) (cl : PySem.W.isClsIn K C = true) (k1 : PySem.W.findIn K (.ref C) "__class__" = some (some (.builtin "object.__class__")))
    (k2 : PySem.W.specialIn K (.builtin "object.__class__") "__get__" = some (some (.builtin "getset_descriptor.__get__"))) (k3 : PySem.W.takesIn K (.builtin "object.__class__") = some true) (k4 : PySem.W.mroIn K C (.type "object") = some true) : XcT K mg c :=
  ⟨C, PySem.W.mg_of X G a, ⟨ga, gg, ex, hd⟩, cl, k1, k2, k3, k4⟩
theorem XcT.at (T : XcT K mg c) (h : mg c = some (.ref C)) : XiC K C := by
  obtain ⟨D, h1, h2⟩ := T
  rw [h] at h1; cases h1
  exact h2
theorem xft_nil : XfT K mg [] f := fun c m => by cases m
theorem xft_cons (X : K.In h) (G : h.Ns mainGlobals mg) (T : XcT K mg c) (a : PySem.W.nsIn K mainGlobals c = some (some (.ref C))) (n : PySem.W.findIn K (.ref C) f = some none) (t : XfT K mg cs f) : XfT K mg (c :: cs) f := fun e m D hD => by
  rcases List.mem_cons.mp m with rfl | m
  · rw [PySem.W.mg_of X G a] at hD; cases hD
    exact ⟨(T.at (PySem.W.mg_of X G a)).xf, n⟩
  · exact t e m D hD
end
end RL
end
section
set_option maxRecDepth 100000
set_option maxHeartbeats 4000000
/-! objects that change: made, their fields stored; startswith from a place; keys of a written dict; facts of raising -/
namespace RL
open PySem PySem.Spec L2 OrdX
open PyProof.Rows hiding St
/-! ### fields are stored -/
/-! ### C(..): an object of the store, its __init__ run -/
/-! ### o.startswith(e, n) -/
end RL
namespace RL
open PySem PySem.Spec L2 OrdX
open PyProof.Rows hiding St
variable [Lams]
/-! ### a written dict's keys -/
/-! ### facts of raising and catching -/
theorem rat_mk {K : PySem.W.Frag} {mg : Str → Option Value} {h : Heap} {c : Str} {C : Addr} (X : K.In h) (G : h.Ns mainGlobals mg) (a : PySem.W.nsIn K mainGlobals c = some (some (.ref C))) (s : PySem.W.subIn K (.ref C) (.type "BaseException") = some true) (t : PySem.W.typeIn K (.ref C) = some (.type "type")) : RaT K mg c := fun D hD => by
  rw [PySem.W.mg_of X G a] at hD; cases hD
  exact ⟨s, t⟩
/-- the classes of an except clause -/
noncomputable def KxTx (K : PySem.W.Frag) (mg : Str → Option Value) (x1 x2 x3 : Str) (tab : List (Str × Bool)) : Prop := ∃ C1 C2 C3, mg x1 = some (.ref C1) ∧ mg x2 = some (.ref C2) ∧ mg x3 = some (.ref C3) ∧ KxT K mg (fun c => tab.lookup c) [.ref C1, .ref C2, .ref C3]
/-- one class against the clause -/
noncomputable def KxOne (K : PySem.W.Frag) (mg : Str → Option Value) (C1 C2 C3 : Addr) (c : Str) (b : Bool) : Prop := ∀ C, mg c = some (.ref C) → PySem.W.exmAny K (.ref C) [.ref C1, .ref C2, .ref C3] = some b
theorem kxOne_mk {K : PySem.W.Frag} {mg : Str → Option Value} {h : Heap} {c : Str} {C C1 C2 C3 : Addr} {b1 b2 b3 : Bool} (X : K.In h) (G : h.Ns mainGlobals mg) (a : PySem.W.nsIn K mainGlobals c = some (some (.ref C)))
    (e1 : PySem.W.exmOne K (.ref C) (.ref C1) = some b1) (e2 : PySem.W.exmOne K (.ref C) (.ref C2) = some b2) (e3 : PySem.W.exmOne K (.ref C) (.ref C3) = some b3) {b : Bool} (hb : (b1 || (b2 || (b3 || false))) = b) : KxOne K mg C1 C2 C3 c b := fun D hD => by
  subst hb
  rw [PySem.W.mg_of X G a] at hD; cases hD
  simp only [PySem.W.exmAny, e1, e2, e3]
theorem exm_mk {K : PySem.W.Frag} {C D : Addr} {b : Bool} (s : PySem.W.subIn K (.ref D) (.type "BaseException") = some true) (h1 : PySem.W.isClsIn K D = true) (h2 : PySem.W.typeIn K (.ref D) = some (.type "type")) (h3 : PySem.W.subIn K (.ref C) (.ref D) = some b) : PySem.W.exmOne K (.ref C) (.ref D) = some b := by
  unfold PySem.W.exmOne
  rw [s, if_pos (by rfl)]
  unfold PySem.W.kitCls
  dsimp only
  rw [show (PySem.W.clsIn K D).isSome = true from h1, h2, Bool.true_and, if_pos (beq_self_eq_true _)]
  exact h3
theorem kxTx_mk {K : PySem.W.Frag} {mg : Str → Option Value} {h : Heap} {x1 x2 x3 : Str} {C1 C2 C3 : Addr} {tab : List (Str × Bool)} (X : K.In h) (G : h.Ns mainGlobals mg) (a1 : PySem.W.nsIn K mainGlobals x1 = some (some (.ref C1))) (a2 : PySem.W.nsIn K mainGlobals x2 = some (some (.ref C2))) (a3 : PySem.W.nsIn K mainGlobals x3 = some (some (.ref C3)))
    (ht : ∀ p ∈ tab, KxOne K mg C1 C2 C3 p.1 p.2) : KxTx K mg x1 x2 x3 tab := by
  refine ⟨C1, C2, C3, PySem.W.mg_of X G a1, PySem.W.mg_of X G a2, PySem.W.mg_of X G a3, fun c C b hC hb => ?_⟩
  have mem : (c, b) ∈ tab := by
    clear ht
    induction tab with
    | nil => cases hb
    | cons q r ih =>
      obtain ⟨k0, v0⟩ := q
      have hb : List.lookup c ((k0, v0) :: r) = some b := hb
      rw [List.lookup_cons] at hb
      cases hk : c == k0 with
      | true => rw [hk] at hb; cases hb; rw [eq_of_beq hk]; exact List.mem_cons_self
      | false => rw [hk] at hb; exact List.mem_cons_of_mem _ (ih hb)
  exact ht _ mem C hC
open L2H in
theorem hu64H {k : Nat} {A : Around} (hr : RoomH k A) : A.units + 64 < cLine := by have := hr.un; omega
open L2H in
theorem hu65H {k : Nat} {A : Around} (hr : RoomH k A) : A.units + 65 < cLine := by have := hr.un; omega
open L2H in
theorem room_suite {X : Cx} {k : Nat} (hr : Room k X.A) (a : Addr) (pn : List (Addr × Obj)) : RoomH k (X.suite a pn).A := ⟨hr.dp, hr.un⟩
end RL
end
section
set_option maxRecDepth 100000
set_option maxHeartbeats 2000000
/-! More of a program: texts cut at a mark, properties. -/
namespace RL
open PySem PySem.Spec L2
open PyProof.Rows hiding St
/-! ### properties -/
end RL
end
section
set_option maxRecDepth 100000
set_option maxHeartbeats 2000000
/-! for k in D (a written dict), min(list of ints). -/
namespace RL
open PySem PySem.Spec L2
open PyProof.Rows hiding St
end RL
end
section
set_option maxRecDepth 100000
set_option maxHeartbeats 2000000
/-! An object in an f-string; a list's least int. -/
namespace RL
open PySem PySem.Spec L2
open PyProof.Rows hiding St
variable [Lams]
/-- the class shows itself in an f-string by its own __str__ -/
noncomputable def FmtT (K : PySem.W.Frag) (mg : Str → Option Value) (c : Str) : Prop := ∀ C, mg c = some (.ref C) → PySem.W.findIn K (.ref C) "__format__" = some (some (.builtin "object.__format__")) ∧ PySem.W.mroIn K C (.type "object") = some true
noncomputable def mFmtO (c : Str) (g : Fn) (m : SM W) : SM W := fun s S => (m s S).bind fun w S1 => gOwnS c g w S1
theorem pm_fmtO {X : Cx} {E : EK} {pos : Pos} {e : Expr} {m : SM W} {c q : Str} {k k' : Nat} {st : Stmt} {ps : List Str} {g : Fn} (T : FmtT X.K X.mg c) (F : MeE X.prog X.w X.K X.mg X.base k c "__str__" q st ps g) (hr : Room k' X.A) (hk : k + 2 ≤ k') (tk : Takes X (fun c d _ H => E c d H)) (he : PM X E e m) (hn : ps.length = 1 := by rfl) :
    PM X E (.FormattedValue e (-1) none pos) (mFmtO c g m) := by
  refine ⟨fun pins s σ H Q I h => ?_⟩
  have h2 : tE X E m σ H fun x H1 => ∃ (ρ : RT) (w : W) (S : Store), RepS X.K X.mg ρ H1 S ∧ RW X.K X.mg ρ H1 w x ∧ Out X.K X.mg (RW X.K X.mg) E ρ H1 (gOwnS c g w S) Q :=
    tX.bind h fun ρ1 H1 w x s' S1 rep env r o => ⟨ρ1, w, S1, rep, r, o⟩
  refine wpAny_FormattedValue_plain (thn (he.run pins s σ H _ I h2) fun v s1 hv => ?_)
  obtain ⟨x, H1, J, rx, ρ, w, S, rep, rw', o⟩ := hv
  obtain ⟨C, f, a, ox, od, hu, at_, mc, M, run⟩ := ownS F tk hn (J.tok (s1.toks + 1)) (.cons rx .nil) rep rw' o
  cases hu
  have r0 : Room (k + 2) X.A := hr.mono hk
  have r1 : Room (k + 1) X.A.in1 := Room.in1 r0
  obtain ⟨t1, t2⟩ := T C mc
  exact PySem.W.kfo_fieldS r1.units0 J.kIn at_ t1 t2 M.at_ M.fn (run _ rfl (r1.mono (Nat.le_succ _)))
theorem fmt_mk {K : PySem.W.Frag} {mg : Str → Option Value} {h : Heap} {c : Str} {C : Addr} (X : K.In h) (G : h.Ns mainGlobals mg) (a : PySem.W.nsIn K mainGlobals c = some (some (.ref C))) (t1 : PySem.W.findIn K (.ref C) "__format__" = some (some (.builtin "object.__format__"))) (t2 : PySem.W.mroIn K C (.type "object") = some true) : FmtT K mg c := fun D hD => by
  rw [PySem.W.mg_of X G a] at hD; cases hD
  exact ⟨t1, t2⟩
/-! ### min -/
end RL
end
section
set_option maxRecDepth 100000
set_option maxHeartbeats 4000000
/-! {k: v for .. in .. if ..}: a dict that stays. -/
namespace RL
open PySem PySem.Spec L2
open PyProof.Rows hiding St
variable [Lams]
noncomputable def mDcT (g : GM) (t : SM Bool) (k v : SM W) (s0 : Env') (w : W) (acc : KW) (S : Store) : Res KW :=
  (nox (g w s0 S)).bind fun s1 S1 => (nox (t s1 S1)).bind fun b S2 => if b = true then (nox (k s1 S2)).bind fun y S3 => (nox (v s1 S3)).bind fun z S4 => match keyW y with
    | some ky => if acc.length < lim then .ok (putW acc ky z) S4 else .bad
    | none => .bad
  else .ok acc S2
noncomputable def mDcL (g : GM) (t : SM Bool) (k v : SM W) (s0 : Env') : List W → KW → Store → Res KW
  | [], acc, S => .ok acc S
  | w :: r, acc, S => (mDcT g t k v s0 w acc S).bind fun acc S => mDcL g t k v s0 r acc S
noncomputable def mDcN (g : GM) (t : SM Bool) (k v : SM W) (s0 : Env') (l : Nat → Store → Option (Option W)) : Nat → Nat → KW → Store → Res KW
  | 0, _, _, _ => .bad
  | n + 1, i, acc, S => match l i S with
    | some (some w) => (mDcT g t k v s0 w acc S).bind fun acc S => mDcN g t k v s0 l n (i + 1) acc S
    | some none => .ok acc S
    | none => .bad
noncomputable def mDcI (it : ItW) (g : GM) (t : SM Bool) (k v : SM W) (s0 : Env') (S : Store) : Res KW := match it with
  | .fix ws => mDcL g t k v s0 ws [] S
  | .gen l => mDcN g t k v s0 l turns 0 [] S
noncomputable def mDc (mi : SM ItW) (vs : List Nat) (g : GM) (t : SM Bool) (k v : SM W) : SM W := fun s S => (mi s S).bind fun it S1 => (mDcI it g t k v (wipeW s vs) S1).bind fun acc S2 => .ok (dicT acc) S2
section
variable {X : Cx} {E : EK} {pos : Pos} {tg iter kx vx : Expr} {ifs : List Expr} {scope : Scope} {own : List (Str × Nat)} {mi : SM ItW} {g : GM} {t : SM Bool} {mk mv : SM W} {vs : List Nat}
/-- one turn, the dict so far at D -/
theorem dcT_of {ρ1 ρ : RT} {H1 H : Hp} {s0 : Env'} {σ : L2.St} {D : Addr} {acc : KW} {accV : List (Key × V)} {S : Store} {w : W} {x : V} {γ δ : Type} {R' : Rl δ γ} {kk : KW → Store → Res γ} {Q : δ → Hp → Prop} {Nx : Hp → Prop}
    (rep : RepS X.K X.mg ρ H S) (hD : D ∈ ρ.t) (env : REnv X.K X.mg ρ H E s0 (wipe σ vs)) (r : RW X.K X.mg ρ H w x) (hd : H D = some (.dK accV)) (ra : RKW X.K X.mg ρ H acc accV)
    (o : Out X.K X.mg R' E ρ1 H1 ((mDcT g t mk mv s0 w acc S).bind kk) Q)
    (hN : ∀ ρ' H' acc' accV' S', (∃ H2, Ext ρ H ρ' H2 ∧ ∃ u, H' = upd H2 D u ∨ H' = H2) → RepS X.K X.mg ρ' H' S' → H' D = some (.dK accV') → RKW X.K X.mg ρ' H' acc' accV' → Out X.K X.mg R' E ρ1 H1 (kk acc' S') Q → Nx H') :
    tG X EN vs g x (wipe σ vs) H fun σ2 H2 => wipe σ2 vs = wipe σ vs ∧ tT X EN t σ2 H2 fun b H3 => if b = true then tE X EN mk σ2 H3 fun y H4 => tE X EN mv σ2 H4 fun z H5 => ∃ kvs k, y = kV k ∧ H5 D = some (.dK kvs) ∧ kvs.length < sizeLine ∧ Nx (upd H5 D (.dK (putK kvs k z))) else Nx H3 := by
  unfold mDcT at o
  rw [Res.bind_bind] at o
  refine ⟨ρ, s0, S, w, rep, env.no, r, Out.noxbind o fun ρ2 H2 s1 σ1 S2 e2 rep2 hh p2 => ⟨hh.2.trans (wipe_wipe fun _ m => m), ρ2, s1, S2, rep2, hh.1, ?_⟩⟩
  rw [Res.bind_bind] at p2
  refine Out.noxbind p2 fun ρ3 H3 b b' S3 e3 rep3 rb p3 => ?_
  cases rb
  have n2 : D ∉ ρ2.r := e2.not hd (rep.tk D hD).2
  have d2 := e2.keep _ _ hd (rep.tk D hD).2
  have n3 : D ∉ ρ3.r := e3.not d2 n2
  have d3 := e3.keep _ _ d2 n2
  have t3 := e3.sub _ (e2.sub _ hD)
  cases b with
  | false =>
    rw [if_neg Bool.false_ne_true] at p3 ⊢
    exact hN ρ3 H3 acc accV S3 ⟨H3, e2.trans e3, .dK [], .inr rfl⟩ rep3 d3 ((ra.ext e2).ext e3) p3
  | true =>
    rw [if_pos rfl] at p3 ⊢
    rw [Res.bind_bind] at p3
    refine ⟨ρ3, s1, S3, rep3, hh.1.ext e3, Out.noxbind p3 fun ρ4 H4 y y' S4 e4 rep4 r4 p4 => ⟨ρ4, s1, S4, rep4, (hh.1.ext e3).ext e4, ?_⟩⟩
    rw [Res.bind_bind] at p4
    refine Out.noxbind p4 fun ρ5 H5 z z' S5 e5 rep5 r5 p5 => ?_
    have d4 := e4.keep _ _ d3 n3
    have d5 := e5.keep _ _ d4 (e4.not d3 n3)
    have t5 := e5.sub _ (e4.sub _ t3)
    have ra5 := (((ra.ext e2).ext e3).ext e4).ext e5
    cases hk : keyW y with
    | none => rw [hk] at p5; exact p5.elim
    | some ky =>
      rw [hk] at p5
      dsimp only at p5
      split at p5
      · rename_i hz
        refine ⟨accV, ky, keyW_of r4 hk, d5, by rw [← ra.len]; exact lim_lt hz, hN ρ5 _ (putW acc ky z) (putK accV ky z') S5 ⟨H5, ((e2.trans e3).trans e4).trans e5, _, .inl rfl⟩ (rep5.flux t5) upd_same ((ra5.put r5).map fun q => q.flux t5) p5⟩
      · exact p5.elim
/-- the dict is made: from now on it stays -/
noncomputable def FrzQ (Q : VK) : VK := fun v H => ∃ d u, v = .ref d ∧ H d = some u ∧ Mut (some u) ∧ ∀ o, Q v (upd H d (.frz o u))
theorem dc_fin {ρ1 ρ : RT} {H1 H : Hp} {D : Addr} {acc : KW} {accV : List (Key × V)} {S : Store} {Q : VK} (hD : H1 D = none) (e : Ext ρ1 H1 ρ H) (rep : RepS X.K X.mg ρ H S) (hDt : D ∈ ρ.t) (hd : H D = some (.dK accV)) (ra : RKW X.K X.mg ρ H acc accV) (nt : D ∉ ρ1.t)
    (o : Out X.K X.mg (RW X.K X.mg) E ρ1 H1 (.ok (dicT acc) S) Q) : FrzQ Q (.ref D) H := by
  refine ⟨D, _, rfl, hd, True.intro, fun od => ?_⟩
  have nr := (rep.tk D hDt).2
  refine o ⟨ρ.r, ρ1.t, ρ.ce⟩ (upd H D (.frz od (.dK accV))) (.ref D) ⟨e.pre, fun _ m => m, fun _ m => .inl m, fun b u hb n => ?_, e.new, fun b m hb => ?_, e.ce⟩ ((rep.flux hDt).less e.sub) (rw_dic ⟨upd_same, nr, nt⟩ (ra.map fun q => (q.flux hDt).less e.sub))
  · rw [upd_ne (ne_of_none hb hD)]; exact e.keep b u hb n
  · by_cases z : b = D
    · rw [z, upd_same]; exact Option.some_ne_none _
    · rw [upd_ne z]; exact e.still b m hb
theorem dc_of {σ : L2.St} {H : Hp} {Q : VK} (h : tE X E (mDc mi vs g t mk mv) σ H Q) : tDc (tX X.K X.mg (RI X.K X.mg) E mi) (tG X EN vs g) (tT X EN t) (tE X EN mk) (tE X EN mv) vs σ H (FrzQ Q) :=
  tX.bind h fun ρ1 H1 it J s S1 rep env r o => fun D hD => by
    have np := rep.fresh hD
    obtain ⟨e0, rep0⟩ := rep.more (o := .dK []) hD
    have go : ∀ {ρ ρ' : RT} {H H' : Hp}, Ext ρ1 H1 ρ H → (∃ H2, Ext ρ H ρ' H2 ∧ ∃ u, H' = upd H2 D u ∨ H' = H2) → Ext ρ1 H1 ρ' H' := fun {ρ ρ' H H'} e ⟨H2, e2, u, hu⟩ => by
      have e3 := e.trans e2
      rcases hu with hu | hu
      · subst hu
        refine ⟨e3.pre, e3.sub, e3.newt, fun b ob hb n => ?_, e3.new, fun b m hb => ?_, e3.ce⟩
        · rw [upd_ne (ne_of_none hb hD)]; exact e3.keep b ob hb n
        · by_cases z : b = D
          · rw [z, upd_same]; exact Option.some_ne_none _
          · rw [upd_ne z]; exact e3.still b m hb
      · rw [hu]; exact e3
    -- where some turns are done
    let At : (KW → Store → Res W) → Hp → Prop := fun k H' => ∃ ρ acc accV S, Ext ρ1 H1 ρ H' ∧ RepS X.K X.mg ρ H' S ∧ D ∈ ρ.t ∧ H' D = some (.dK accV) ∧ RKW X.K X.mg ρ H' acc accV ∧ Out X.K X.mg (RW X.K X.mg) E ρ1 H1 (k acc S) Q
    have step : ∀ {ρ : RT} {H2 : Hp} {acc : KW} {accV : List (Key × V)} {S : Store} {w : W} {x : V} {kk : KW → Store → Res W}, Ext ρ1 H1 ρ H2 → RepS X.K X.mg ρ H2 S → D ∈ ρ.t → H2 D = some (.dK accV) → RKW X.K X.mg ρ H2 acc accV → RW X.K X.mg ρ H2 w x →
        Out X.K X.mg (RW X.K X.mg) E ρ1 H1 ((mDcT g t mk mv (wipeW s vs) w acc S).bind kk) Q → tG X EN vs g x (wipe σ vs) H2 fun σ2 H2 => wipe σ2 vs = wipe σ vs ∧ tT X EN t σ2 H2 fun b H3 => if b = true then tE X EN mk σ2 H3 fun y H4 => tE X EN mv σ2 H4 fun z H5 => ∃ kvs k, y = kV k ∧ H5 D = some (.dK kvs) ∧ kvs.length < sizeLine ∧ At kk (upd H5 D (.dK (putK kvs k z))) else At kk H3 :=
      fun e rep2 ht hd2 ra2 r2 o2 => dcT_of rep2 ht ((env_wipe env vs).ext e) r2 hd2 ra2 o2 fun ρ3 H3 acc3 accV3 S3 hx rep3 hd3 ra3 o3 => ⟨ρ3, acc3, accV3, S3, go e hx, rep3, by obtain ⟨Hx, ex, _⟩ := hx; exact ex.sub _ ht, hd3, ra3, o3⟩
    cases it with
    | fix ws =>
      refine ⟨fun i m H' => m = ws.length - i ∧ i ≤ ws.length ∧ At (fun acc S => (mDcL g t mk mv (wipeW s vs) (ws.drop i) acc S).bind fun acc S2 => .ok (dicT acc) S2) H', ⟨_, rfl, Nat.zero_le _, ⟨ρ1.r, D :: ρ1.t, ρ1.ce⟩, [], [], S1, e0, rep0, List.mem_cons_self, upd_same, .nil, o⟩, ?_⟩
      rintro i m H' ⟨rfl, hle, ρ, acc, accV, S, e, rep', ht, hd, ra, o'⟩
      have rr := r ρ H' S e rep' i
      rcases Nat.lt_or_ge i ws.length with hlt | hge
      · obtain ⟨g1, yl⟩ := rr.1 _ (List.getElem?_eq_getElem hlt)
        rw [List.drop_eq_getElem_cons hlt] at o'
        unfold mDcL at o'
        dsimp only at o'
        rw [Res.bind_bind] at o'
        refine .inr ⟨g1, At fun acc S => (mDcL g t mk mv (wipeW s vs) (ws.drop (i + 1)) acc S).bind fun acc S2 => .ok (dicT acc) S2, fun H2 q => ⟨ws.length - (i + 1), by omega, rfl, hlt, q⟩, fun x H2 hy => ?_⟩
        obtain ⟨e2, rep2, r2⟩ := yl x H2 hy
        exact step (e.trans e2) rep2 (e2.sub _ ht) (e2.keep _ _ hd (rep'.tk D ht).2) (ra.ext e2) r2 o'
      · have hi : ws.length = i := by omega
        rw [List.drop_eq_nil_of_le hge] at o'
        dsimp only at o'
        exact .inl ⟨rr.2 hi, dc_fin hD e rep' ht hd ra np.2 o'⟩
    | gen l =>
      refine ⟨fun i m H' => At (fun acc S => (mDcN g t mk mv (wipeW s vs) l m i acc S).bind fun acc S2 => .ok (dicT acc) S2) H', ⟨turns, ⟨ρ1.r, D :: ρ1.t, ρ1.ce⟩, [], [], S1, e0, rep0, List.mem_cons_self, upd_same, .nil, o⟩, ?_⟩
      rintro i m H' ⟨ρ, acc, accV, S, e, rep', ht, hd, ra, o'⟩
      cases m with
      | zero => exact o'.elim
      | succ m =>
        dsimp only at o'
        unfold mDcN at o'
        have rr := r ρ H' S e rep' i
        cases e1 : l i S with
        | none => rw [e1] at o'; exact o'.elim
        | some u =>
          rw [e1] at o' rr
          cases u with
          | none => exact .inl ⟨rr, dc_fin hD e rep' ht hd ra np.2 o'⟩
          | some w =>
            dsimp only at o'
            rw [Res.bind_bind] at o'
            obtain ⟨g1, yl⟩ := rr
            refine .inr ⟨g1, At fun acc S => (mDcN g t mk mv (wipeW s vs) l m (i + 1) acc S).bind fun acc S2 => .ok (dicT acc) S2, fun H2 q => ⟨m, Nat.lt_succ_self m, q⟩, fun x H2 hy => ?_⟩
            obtain ⟨e2, rep2, r2⟩ := yl x H2 hy
            exact step (e.trans e2) rep2 (e2.sub _ ht) (e2.keep _ _ hd (rep'.tk D ht).2) (ra.ext e2) r2 o'
/-- the block's part of a dict comprehension, at every entry -/
structure BlkD (X : Cx) (scope : Scope) (tg : Expr) (ifs : List Expr) (kx vx : Expr) (vs : List Nat) (g : GM) (t : SM Bool) (mk mv : SM W) : Prop where
  g : ∀ (s : Shared) (H : Hp) (C : Addr) (cl : List (Str × Addr)) (fp : List Addr), PGM (X.blk s H scope (compEnvC scope cl C X.env) fp) EN tg vs g
  t : ∀ (s : Shared) (H : Hp) (C : Addr) (cl : List (Str × Addr)) (fp : List Addr), PTsM (X.blk s H scope (compEnvC scope cl C X.env) fp) EN ifs t
  k : ∀ (s : Shared) (H : Hp) (C : Addr) (cl : List (Str × Addr)) (fp : List Addr), PM (X.blk s H scope (compEnvC scope cl C X.env) fp) EN kx mk
  v : ∀ (s : Shared) (H : Hp) (C : Addr) (cl : List (Str × Addr)) (fp : List Addr), PM (X.blk s H scope (compEnvC scope cl C X.env) fp) EN vx mv
theorem pm_dc (hc : X.calm = true) (hN : X.N.Nodup) (hi : PIM' X E tg iter mi) (ok : blkC X.N X.env.scope scope own = true) (hb : BlkD X scope tg ifs kx vx (slots own) g t mk mv) (hs : ∀ x, foldedSetIterable iter X.env x = pure x := by intro _; rfl) :
    PM X E (.DictComp kx vx [⟨tg, iter, ifs, 0⟩] scope pos) (mDc mi (slots own) g t mk mv) :=
  pe_imp (pe_frz <| pe_dc (g := tG X EN (slots own) g) (tt := tT X EN t) (tk := tE X EN mk) (tv := tE X EN mv) hc hN hi (blkOk_by ok) hb.g hb.t hb.k hb.v hs) fun σ H Q h => dc_of h
end
end RL
end
section
set_option maxRecDepth 100000
set_option maxHeartbeats 2000000
/-! A property's facts. -/
namespace RL
open PySem PySem.Spec L2
open PyProof.Rows hiding St
end RL
end
section
set_option maxRecDepth 100000
set_option maxHeartbeats 2000000
/-! == of lists of tuples that hold objects with an own ==, where it is True. -/
namespace RL
open PySem PySem.Spec L2
open PyProof.Rows hiding St
variable [Lams]
mutual
/-- no object of the store in it -/
noncomputable def noRef : W → Bool
  | .ref _ => false
  | .lam _ => false
  | .clo _ _ => false
  | .tup ws => noRefs ws
  | .lst ws => noRefs ws
  | .flst ws => noRefs ws
  | .dic _ ws => noRefs ws
  | .ins _ _ ws => noRefs ws
  | .exn _ _ ws => noRefs ws
  | _ => true
noncomputable def noRefs : List W → Bool
  | [] => true
  | w :: r => noRef w && noRefs r
end
section
variable {K : PySem.W.Frag} {mg : Str → Option Value} {ρ : RT} {H : Hp}
theorem Fx.bare {a : Addr} {o : HO} (h : Fx ρ H a o) : Fx ⟨[], [], ρ.ce⟩ H a o := ⟨h.1, fun m => (by cases m), fun m => (by cases m)⟩
mutual
theorem RW.bare : ∀ {w : W} {v : V}, noRef w = true → RW K mg ρ H w v → RW K mg ⟨[], [], ρ.ce⟩ H w v
  | _, _, _, .non => .non
  | _, _, _, .bl b => .bl b
  | _, _, _, .int b => .int b
  | _, _, _, .str b => .str b
  | _, _, _, .ty b => .ty b
  | _, _, _, .gl h => .gl h
  | _, _, n, .ref _ => nomatch (n : false = true)
  | _, _, n, .tup h r => .tup (h.imp (fun z => z.bare) id) (RWs.bare (show noRefs _ = true from n) r)
  | _, _, n, .lst h r => .lst h.bare (RWs.bare (show noRefs _ = true from n) r)
  | _, _, n, .flst h r => .flst (h.imp (fun ⟨o, z⟩ => ⟨o, z.bare⟩) id) (RWs.bare (show noRefs _ = true from n) r)
  | _, _, n, .dic h hl r => .dic (h.imp fun _ z => z.bare) hl (RWs.bare (show noRefs _ = true from n) r)
  | _, _, n, .ins hc h hl r => .ins hc h.bare hl (RWs.bare (show noRefs _ = true from n) r)
  | _, _, n, .exn hc h hd hl r => .exn hc h.bare hd.bare hl (RWs.bare (show noRefs _ = true from n) r)
  | _, _, n, .lam _ _ _ _ _ => nomatch (n : false = true)
  | _, _, n, .clo _ _ _ _ _ _ _ _ => nomatch (n : false = true)
theorem RWs.bare : ∀ {ws : List W} {vs : List V}, noRefs ws = true → RWs K mg ρ H ws vs → RWs K mg ⟨[], [], ρ.ce⟩ H ws vs
  | _, _, _, .nil => .nil
  | _, _, n, .cons h r => .cons (RW.bare (Bool.and_eq_true_iff.mp n).1 h) (RWs.bare (Bool.and_eq_true_iff.mp n).2 r)
end
end
end RL
end
section
set_option maxRecDepth 100000
set_option maxHeartbeats 2000000
/-! xs[i:j:k] of a list. -/
namespace RL
open PySem PySem.Spec L2
open PyProof.Rows hiding St
end RL
end
section
set_option maxRecDepth 100000
set_option maxHeartbeats 2000000
/-! text * int. -/
namespace RL
open PySem PySem.Spec L2
open PyProof.Rows hiding St
end RL
end
section
set_option maxRecDepth 100000
set_option maxHeartbeats 4000000
/-! an exception out of a comprehension's block -/
namespace RL
open PySem PySem.Spec L2
open PyProof.Rows hiding St
/-- the same state, another wish about exceptions -/
theorem inv_xe {X : Cx} {pins : List (Addr × Obj)} {σ : L2.St} {H : Hp} {s : Shared} (I : Inv X pins σ H s) (xe : Value → Shared → Prop) : Inv (X.tr X.pn xe) pins σ H s :=
  ⟨I.ok.toTry X.pn xe, I.os, I.bare, I.base, I.loc, I.cell, I.free, I.freeC, I.pin, I.hok, I.len⟩
theorem inv_ex {X : Cx} {pins : List (Addr × Obj)} {σ : L2.St} {H : Hp} {s : Shared} {xe : Value → Shared → Prop} (I : Inv (X.tr X.pn xe) pins σ H s) : Inv X pins σ H s :=
  ⟨I.ok.ofTry, I.os, I.bare, I.base, I.loc, I.cell, I.free, I.freeC, I.pin, I.hok, I.len⟩
section
variable {M : Model} {A : Around} {E : Value → Shared → Prop} {s : Shared} {Z : Obj → Prop} {base : Heap} {env : Env} {outer : List Env} {L L' e : Addr}
/-- noted somewhere else, now here -/
theorem look_off {Q : Unit → Shared → Prop} (hZ : HandSPX.Steady Z) (hfr : A.frames = some (env :: outer)) (hf : env.frame = some L) (hne : L' ≠ L) (hh : HandSPX.HeldZ base (env :: outer) e Z L' s.heap)
    (hQ : ∀ h2, HandSPX.HeldZ base (env :: outer) e Z L h2 → s.heap.UpToSlots h2 → Q () { s with heap := h2 }) : wpAny M A (noteFrame (.ref e) env) Q E s := by
  obtain ⟨kb, en, fl, oe, vs, T, oT, ts, ge, ze, de, e1, nT, Te, gT, dT, e3⟩ := hh
  have off : ¬ ((rawInt (L' : Int) == rawInt (L : Int)) = true) := by
    intro z
    have z := beq_iff_eq.mp z
    unfold rawInt at z
    injection z with z1 z2
    exact hne (Int.ofNat.inj z1)
  have keep : ∀ b u, s.heap.get? b = some u → b ≠ T → (s.heap.update T (Obj.mapFields (·.setIfInBounds 3 Value.none))).get? b = some u := fun b u q n => (Heap.get?_update_other _ _ n.symm).trans q
  have nrec : ∀ b u, s.heap.get? b = some u → (∀ ws, u.data ≠ .fields ws) → b ≠ T := fun b u q n z => by
    subst z
    rw [gT] at q; cases q
    exact n ts dT
  unfold noteFrame
  simp only [hf]
  refine wpAny_bind (wpAny_field ge de e1 ?_)
  rw [if_pos (by simp)]
  refine wpAny_bind (wpAny_field gT dT e3 ?_)
  rw [if_neg off]
  refine wpAny_bind (wpAny_setField gT dT (Array.getElem?_eq_some_iff.mp e3).1 ?_)
  refine HandSPX.wpAny_entryZ hZ hfr (Heap.FunFrames.of_keeps (fun b u q n => ⟨u, keep b u q (nrec b u q n), rfl⟩) fl) hf (keep _ _ ge Te.symm) (fun b u q => keep b u (kb b u q) fun z => by rw [z, nT] at q; cases q) en de (Array.getElem?_eq_some_iff.mp e1).1 ze fun h2 N => ?_
  exact hQ h2 ⟨N.1, en, N.2.1, N.2.2.1⟩ fun b u q n => N.2.2.2 b u (keep b u q (nrec b u q n)) n
end
section
variable {X : Cx} {pins : List (Addr × Obj)} {σ : L2.St} {s3 : Shared} {H3 : Hp} {scope : Scope} {ce : Env} {fp : List Addr} {W : WX}
/-- an exception in a block's air goes on in the def's -/
theorem block_fails (tk : Takes X W) (hs : X.stack = X.env :: X.outer) (hf : X.env.frame = some X.env.locals) (I3 : Inv X pins σ H3 s3) (hcf : ce.frame = X.env.frame) (cL : ce.locals = s3.heap.objs.size)
    (f3 : ∀ b ∈ fp, FpOk X pins H3 b) (hW : ∀ cls d σ' σ H, W cls d σ' H → W cls d σ H) {u : Value} {s' : Shared} (x : XE (X.blk s3 H3 scope ce fp) W u s') : notedBy (model X.prog X.w) X.A ce (CompFails (model X.prog X.w) X.A X.xe ce) u s' := by
  obtain ⟨a, B, sI, pins', σ', H, cls, d, rfl, I, nb, up, sky, na, os, ag, w⟩ := x
  have hfr : X.A.frames = some (X.env :: X.outer) := by rw [I3.ok.frames, hs]
  have nb : ∀ b o, sI.heap.get? b = some o → b ∉ frs X.stack → B.get? b = some o := nb
  have sky : Sky B X.stack a (Zc cls d) ce.locals s'.heap := sky
  rw [hs] at sky
  obtain ⟨m0, n0, _⟩ := I.loc
  have n0 : sI.heap.Ns ce.locals m0 := n0
  have Cn : H ce.locals = none := I.free
  -- where the block's names stand
  have lt : X.env.locals < s3.heap.objs.size := by
    obtain ⟨m, hn, _⟩ := I3.loc
    exact hn.lt
  have key : ∀ h1, HandSPX.HeldZ B (X.env :: X.outer) a (Zc cls d) X.env.locals h1 → s'.heap.UpToSlots h1 → CompFails (model X.prog X.w) X.A X.xe ce (.ref a) { s' with heap := h1 } := fun h1 ⟨k1, ka, kf, oe, vs, T, oT, ts, ge, ze, de, e1, nT, Te, gT, dT, e3⟩ up1 => by
    have n1 : h1.Ns ce.locals m0 := Heap.Ns.upToSlots (Heap.Ns.upToSlots n0 up) up1
    refine ⟨m0, n1, fun h2 m2 n2 sb => ?_⟩
    have sb : Heap.SameBut ce.locals h1 h2 := sb
    have notC : ∀ b u ws, h1.get? b = some u → u.data = .fields ws → b ≠ ce.locals := fun b u ws q dq z => by
      obtain ⟨o, es, ep, qo, ho, _⟩ := n1
      rw [z, qo] at q
      cases q
      rw [dq] at ho; cases ho
    obtain ⟨G, g1, g2⟩ := restrict sI.heap fun b => decide (b ≠ ce.locals)
    obtain ⟨B2, b1, b2⟩ := restrict B fun b => decide (b ≠ ce.locals)
    have Gget : ∀ b o, G.get? b = some o → b ≠ ce.locals ∧ sI.heap.get? b = some o := fun b o q => by
      by_cases z : b = ce.locals
      · rw [g2 b (by simp [z])] at q; cases q
      · exact ⟨z, by rw [← g1 b (by simp [z])]; exact q⟩
    have Ghas : ∀ b o, sI.heap.get? b = some o → b ≠ ce.locals → G.get? b = some o := fun b o q z => by rw [g1 b (by simp [z])]; exact q
    have Bget : ∀ b o, B2.get? b = some o → b ≠ ce.locals ∧ B.get? b = some o := fun b o q => by
      by_cases z : b = ce.locals
      · rw [b2 b (by simp [z])] at q; cases q
      · exact ⟨z, by rw [← b1 b (by simp [z])]; exact q⟩
    have Bnone : ∀ b, B.get? b = none → B2.get? b = none := fun b q => by
      cases r : B2.get? b with
      | none => rfl
      | some o => rw [(Bget b o r).2] at q; cases q
    have kb : B2.StaysIn h2 := fun b o q => (sb.2 b (Bget b o q).1).trans (k1 b o (Bget b o q).2)
    have ff : h2.FunFrames B2 (X.env :: X.outer) := funFrames_none (Heap.FunFrames.sameBut sb n2 kf) fun b hb => Bnone b (Heap.FunFrames.mem kf hb).1
    unfold PySem.passOn
    refine wpAny_bind (wpAny_field ((sb.2 _ (notC _ _ _ ge de)).trans ge) de e1 ?_)
    rw [if_neg (by simp), hcf, hf]
    refine wpAny_bind (HandSPX.setFlight_anyZ (base := B2) (l := X.env :: X.outer) (Z := Zc cls d) (fl := rawInt X.env.locals) kb ff ⟨oe, vs, T, oT, ts, (sb.2 _ (notC _ _ _ ge de)).trans ge, ze, de, e1, Bnone T nT, Te, (sb.2 _ (notC _ _ _ gT dT)).trans gT, dT, e3⟩ fun h3 k3 f3' t3 up3 => wpAny_throw ?_)
    refine tk _ _ ⟨a, B2, { sI with heap := G }, pins, σ, H, cls, d, rfl, ?_, fun b o q n => ?_, fun b o q n => ?_, .inr (.inr ⟨k3, Bnone a ka, by rw [hs]; exact f3', t3⟩), na, os, ag, hW _ _ _ _ _ w⟩
    · refine I3.call' (s' := { sI with heap := G }) (ch := fp) I.os ⟨fun b o q n h h' => ?_, fun b o q n h h' => ?_, I.base.free, fun b o q h => ?_, I.base.tups, I.base.frzs, I.base.tbls⟩ (fun b o q => (I.hok b o q).stay (fun c v hc r => Ghas c v r ?_) (fun _ r => r) fun _ _ r => r) I.bare fun b hb => ⟨(f3 b hb).2.2.2.1, (f3 b hb).2.1, (f3 b hb).2.2.2.2.1, (f3 b hb).2.2.2.2.2⟩
      · exact Ghas b o (I.base.keep b o q n h h') (by rw [cL]; exact Nat.ne_of_lt (Heap.lt_size q))
      · obtain ⟨sl, r⟩ := I.base.slot b o q n h h'
        exact ⟨sl, Ghas b _ r (by rw [cL]; exact Nat.ne_of_lt (Heap.lt_size q))⟩
      · obtain ⟨o', r⟩ := I.base.there b o q h
        exact ⟨o', Ghas b o' r (by rw [cL]; exact Nat.ne_of_lt (Heap.lt_size q))⟩
      · rintro rfl
        rcases hc with hc | hc
        · rw [← hc, Cn] at q; cases q
        · rw [Cn] at hc; cases hc
    · obtain ⟨z, r⟩ := Gget b o q
      rw [b1 b (by simp [z])]
      exact nb b o r n
    · obtain ⟨z, r⟩ := Gget b o q
      obtain ⟨s1, r1⟩ := up b o r n
      obtain ⟨s2, r2⟩ := up1 b _ r1 n
      obtain ⟨s3', r3⟩ := up3 b _ ((sb.2 b z).trans r2) n
      exact ⟨s3', r3⟩
  show wpAny _ _ (noteFrame (.ref a) ce) _ _ s'
  rw [noteFrame_env _ hcf]
  rcases sky with ⟨hB, hn, hl, oe, vs, he, hz, hd, h1⟩ | fl | hh
  · exact HandSPX.look_newZ Zc.steady hfr hl hf he hB hn hd h1 hz key
  · exact HandSPX.looks_onZ Zc.steady hfr hf fl key
  · exact look_off Zc.steady hfr hf (by rw [cL]; exact fun z => Nat.lt_irrefl _ (z ▸ lt)) hh key
end
end RL
end
section
set_option maxRecDepth 100000
set_option maxHeartbeats 4000000
/-! comprehensions whose elements may raise: the cores (printed by rzb.py) -/
namespace RL
open PySem PySem.Spec L2
open PyProof.Rows hiding St
/-- in the block's air -/
noncomputable abbrev airX (X : Cx) (s : Shared) (H : Hp) (scope : Scope) (ce : Env) (fp : List Addr) (W : WX) : Value → Shared → Prop := fun u s' => XE (X.blk s H scope ce fp) W u s'
theorem air_takes {X : Cx} {s : Shared} {H : Hp} {scope : Scope} {ce : Env} {fp : List Addr} {W : WX} : Takes ((X.blk s H scope ce fp).tr [] (airX X s H scope ce fp W)) W := fun u s' ⟨a, B, sI, pins, σ, H', cls, d, e, I, r⟩ =>
  ⟨a, B, sI, pins, σ, H', cls, d, e, inv_ex (X := X.blk s H scope ce fp) I, r⟩
/-- what ends well -/
theorem ends_ok {M : Model} {A : Around} {E : Value → Shared → Prop} {use : Option (Value → Sem Unit)} {Q : Value → Shared → Prop} {acc : Value} {ce : Env} {f : Flow} {s : Shared} (h : compPost M A E use Q acc ce.locals (.ok f) s) : compEnds M A E use Q acc ce (.ok f) s := by
  cases use with
  | none => exact h
  | some u => exact h
section
variable {X : Cx} {pins : List (Addr × Obj)} {s : Shared} {σ : L2.St} {H : Hp} {Q : VK} {elt kx vx tg iter : Expr} {ifs : List Expr} {scope : Scope} {own : List (Str × Nat)} {pos pos' : Pos} {wi : TI} {g : TG} {tt : TT} {te tk' tv : TE} {use : Option (Value → Sem Unit)} {Qf : Value → Shared → Prop} {W : WX}
theorem lc_coreX (hc : X.calm = true) (hN : X.N.Nodup) (tk : Takes X W) (hst : X.stack = X.env :: X.outer) (hfr : X.env.frame = some X.env.locals) (hW : ∀ cls d σ1 σ2 K, W cls d σ1 K → W cls d σ2 K) (I : Inv X pins σ H s) (hi : PI X tg iter wi) (ok : BlkOk X.N X.env.scope scope own)
    (hg : ∀ (t : Shared) (K : Hp) (C : Addr) (cl : List (Str × Addr)) (fp : List Addr), PG (X.blk t K scope (compEnvC scope cl C X.env) fp) tg g)
    (ht : ∀ (t : Shared) (K : Hp) (C : Addr) (cl : List (Str × Addr)) (fp : List Addr), PTs (X.blk t K scope (compEnvC scope cl C X.env) fp) ifs tt)
    (he : ∀ (t : Shared) (K : Hp) (C : Addr) (cl : List (Str × Addr)) (fp : List Addr) (xe : Value → Shared → Prop), Takes ((X.blk t K scope (compEnvC scope cl C X.env) fp).tr [] xe) W → PE ((X.blk t K scope (compEnvC scope cl C X.env) fp).tr [] xe) elt te)
    (hs : ∀ y, foldedSetIterable iter X.env y = pure y) (h : tLc wi g tt te (own.map (·.2)) σ H Q)
    (fin0 : ∀ D C s' m H', Inv X pins σ H' s' → Q (.ref D) H' → s'.heap.Ns C m → FpOk X pins H' C → compPost (model X.prog X.w) X.A X.xe use Qf (.ref D) C (.ok .next) s') :
    wpAny (model X.prog X.w) X.A (comprehension (.ListComp elt [⟨tg, iter, ifs, 0⟩] scope pos) scope X.env pos' (newList []) false (eval iter X.env) use) Qf X.xe s := by
  have caps : ∀ y ∈ scope.names, y.2 = .free → ∃ c, X.env.cells.lookup y.1 = some c := fun y hy e =>
    (ok.free y hy e).elim (fun k => I.ok.has _ (.inl k)) fun k => I.ok.has _ (.inr k)
  refine comprehension_at (use := use) rfl hs (closure_ok caps) ok.kind (fun y hy e => by rw [ok.uniq y hy, e]) ?_
  refine thn (hi.run pins s σ H _ I h) fun xv s1 hx => thn hx fun itv s2 h2 => ?_
  obtain ⟨it, fp, tn, J, H2, e, I2, T, st2, f2, q⟩ := h2
  subst e
  refine wpAny_newObj_type (newEnv_comp ?_) (by show 0 ≤ sizeLine; decide)
  generalize hD : s2.heap.objs.size = D
  obtain ⟨V, ⟨m0, w0⟩, turn⟩ := q D (I2.hok.fresh (Nat.le_of_eq hD))
  generalize hs3 : ({ s2 with heap := s2.heap.push { cls := .type "list", data := .seq ([] : List Value).toArray } } : Shared) = s3
  have I3 : Inv X pins σ (upd H2 D (.lst [])) s3 := by
    subst hs3
    refine I2.laid (t' := s2.toks) (fun b o e => Heap.get?_push_of_some _ e) (Nat.le_of_eq hD) ⟨Nat.zero_le _, [], 0, .nil, ?_⟩
    subst hD
    exact Heap.get?_push_size _ rfl
  have h3 : s3.heap = s2.heap.push { cls := .type "list", data := .seq ([] : List Value).toArray } := by subst hs3; rfl
  have f3 : ∀ b ∈ fp, FpOk X pins (upd H2 D (.lst [])) b ∧ b < s3.heap.objs.size := fun b hb => by
    obtain ⟨o, e, _⟩ := T.obj _ _ st2 b hb
    have below := Heap.lt_size e
    rw [h3, Heap.size_push]
    refine ⟨⟨?_, (f2 b hb).2⟩, Nat.lt_succ_of_lt below⟩
    rw [upd_ne (Nat.ne_of_lt (hD ▸ below))]
    exact (f2 b hb).1
  have st3 : tn 0 s3.heap := T.keep _ _ _ st2 fun b _ o e => by rw [h3]; exact Heap.get?_push_of_some _ e
  have I4 := block_start I3 ok hN f3
  have pG := hg s3 (upd H2 D (.lst [])) s3.heap.objs.size (cellsFrom (s3.heap.objs.size + 1) scope.names (cloFrom X.env.cells scope.names [])) fp
  have pT := ht s3 (upd H2 D (.lst [])) s3.heap.objs.size (cellsFrom (s3.heap.objs.size + 1) scope.names (cloFrom X.env.cells scope.names [])) fp
  have pE := he s3 (upd H2 D (.lst [])) s3.heap.objs.size (cellsFrom (s3.heap.objs.size + 1) scope.names (cloFrom X.env.cells scope.names [])) fp
  show codeAny _ _ (.compStart (.ListComp elt [⟨tg, iter, ifs, 0⟩] scope pos) 0 (.ref it) (.ref D) (compEnvC scope (cellsFrom (s3.heap.objs.size + 1) scope.names (cloFrom X.env.cells scope.names [])) s3.heap.objs.size X.env))
    (compEnds (model X.prog X.w) X.A X.xe use Qf (.ref D) (compEnvC scope (cellsFrom (s3.heap.objs.size + 1) scope.names (cloFrom X.env.cells scope.names [])) s3.heap.objs.size X.env)) { s3 with heap := pushCells (s3.heap.push { cls := .type "dict", data := .dict #[] }) scope.names }
  have nfp : ∀ b ∈ fp, (upd H2 D (.lst [])) b = none := fun b hb => (f3 b hb).1.1
  have hcf : (compEnvC scope (cellsFrom (s3.heap.objs.size + 1) scope.names (cloFrom X.env.cells scope.names [])) s3.heap.objs.size X.env).frame = X.env.frame := rfl
  have cL : (compEnvC scope (cellsFrom (s3.heap.objs.size + 1) scope.names (cloFrom X.env.cells scope.names [])) s3.heap.objs.size X.env).locals = s3.heap.objs.size := rfl
  generalize compEnvC scope (cellsFrom (s3.heap.objs.size + 1) scope.names (cloFrom X.env.cells scope.names [])) s3.heap.objs.size X.env = ce at I4 pG pT pE hcf cL ⊢
  generalize upd H2 D (.lst []) = H3 at I3 I4 pG pT pE w0 nfp f3
  have pE := pE (airX X s3 H3 scope ce fp W) air_takes
  generalize hs4 : ({ s3 with heap := pushCells (s3.heap.push { cls := .type "dict", data := .dict #[] }) scope.names } : Shared) = s4 at I4 ⊢
  have st4 : tn 0 s4.heap := T.keep _ _ _ st3 fun b _ o e => by subst hs4; exact pushCells_keeps _ _ _ _ (Heap.get?_push_of_some _ e)
  have stat : ∀ {σ1 : L2.St} {K : Hp} {t : Shared}, Inv (X.blk s3 H3 scope ce fp) [] σ1 K t → (∀ b ∈ fp, K b = none) → ∀ b ∈ fp, FpOk (X.blk s3 H3 scope ce fp) [] K b := fun I1 hn b hb =>
    ⟨hn b hb, (I1.ok.exf b hb).1, I1.ok.exfs b hb, .inl hb, fun y c e => (I1.ok.exf b hb).2 y c e, fun p hp => nomatch (show p ∈ ([] : List (Addr × Obj)) from hp)⟩
  have loop : codeAny (model X.prog X.w) X.A (.compLoop (.ListComp elt [⟨tg, iter, ifs, 0⟩] scope pos) 0 (.ref it) (.ref D) ce) (compEnds (model X.prog X.w) X.A X.xe use Qf (.ref D) ce) s4 := by
    refine compLoop_any (fun n t => ∃ i K, Inv (X.blk s3 H3 scope ce fp) [] (wipe σ (own.map (·.2))) K t ∧ tn i t.heap ∧ (∀ b ∈ fp, K b = none) ∧ V i n K) ?_ m0 ⟨0, H3, I4, st4, nfp, w0⟩
    rintro n s5 ⟨i, H5, I5, st5, n5, w5⟩
    rcases turn i n H5 w5 with ⟨stop, qq⟩ | ⟨go, Nx, hNx, step⟩
    · refine thnF (T.done (X.blk s3 H3 scope ce fp) rfl rfl rfl hc i [] s5 _ H5 (fun _ _ => False) I5 (stat I5 n5) st5 stop) fun r s6 hr => ?_
      obtain ⟨er, I6⟩ := hr
      subst er
      obtain ⟨m, n6, _⟩ := I6.loc
      have n6 : s6.heap.Ns ce.locals m := n6
      have c6 : H5 ce.locals = none := I6.free
      refine ends_ok (fin0 D ce.locals s6 m H5 (I3.call' (ch := fp) I6.os I6.base I6.hok I6.bare fun b hb => ?_) qq n6 (I3.fpOk (by rw [cL]; exact Nat.le_refl _) c6))
      have fb := (f3 b hb).1
      exact ⟨fb.2.2.2.1, fb.2.1, fb.2.2.2.2.1, fb.2.2.2.2.2⟩
    · refine thnF (T.item (X.blk s3 H3 scope ce fp) rfl rfl rfl hc i [] s5 _ H5 (fun _ _ => False) I5 (stat I5 n5) st5 go) fun r s6 hr => ?_
      obtain ⟨u, er, h6⟩ := hr
      subst er
      refine thnF h6 fun _ s7 hx7 => ?_
      obtain ⟨x, H7, I7, r7, y7, st7, n7⟩ := hx7
      refine thnF (pG.run _ s7 _ H7 x u _ (I7.pinned (stat I7 n7) (T.obj _ _ st7)) r7 (step x H7 y7)) fun _ s8 h8 => ?_
      obtain ⟨σ8, H8, I8, w8, q8⟩ := h8
      refine thnF (pT.run _ s8 σ8 H8 _ I8 q8) fun b s9 h9 => ?_
      obtain ⟨H9, I9, q9⟩ := h9
      have fin : ∀ {t : Shared} {K : Hp}, Inv (X.blk s3 H3 scope ce fp) ([] ++ pinsAt fp s7.heap) σ8 K t → Nx K → ∃ m, m < n ∧ ∃ i K, Inv (X.blk s3 H3 scope ce fp) [] (wipe σ (own.map (·.2))) K t ∧ tn i t.heap ∧ (∀ b ∈ fp, K b = none) ∧ V i m K := fun {t K} I1 nx => by
        obtain ⟨m1, lt1, w1⟩ := hNx K nx
        have held : ∀ b ∈ fp, ∀ o, s7.heap.get? b = some o → t.heap.get? b = some o ∧ K b = none := fun b hb o e =>
          have z := I1.pin (b, o) (List.mem_append_right _ (List.mem_append_right _ (mem_pinsAt hb e)))
          ⟨z.1, z.2.1⟩
        refine ⟨m1, lt1, i + 1, K, (I1.unpinned (pins := [])).weak (by rw [← w8, wipe_length]) (fun j v e => ?_), T.keep _ _ _ st7 fun b hb o e => (held b hb o e).1, fun b hb => ?_, w1⟩
        · rw [← w8] at e
          exact (wipe_some e).1
        · obtain ⟨o, e, _⟩ := T.obj _ _ st7 b hb
          exact (held b hb o e).2
      cases b with
      | false =>
        simp only [Bool.false_eq_true, if_false] at q9 ⊢
        exact fin I9 q9
      | true =>
        simp only [if_true] at q9 ⊢
        refine wpAny_mono (pE.run _ s9 σ8 H9 _ (inv_xe I9 _) q9) (fun z s10 hz => ?_) (fun u1 s1 x1 => block_fails tk hst hfr I3 hcf cL (fun b hb => (f3 b hb).1) hW x1)
        obtain ⟨yv, H10, I10, r10, acc, d10, z10, nx⟩ := hz
        exact app_ok (X := X.blk s3 H3 scope ce fp) (inv_ex (X := X.blk s3 H3 scope ce fp) I10) d10 z10 r10 fun s11 I11 => fin I11 nx
  exact codeAny_compStart_list loop (T.self X.A 0 _ _ _ st4 loop)
theorem dc_coreX (hc : X.calm = true) (hN : X.N.Nodup) (tk : Takes X W) (hst : X.stack = X.env :: X.outer) (hfr : X.env.frame = some X.env.locals) (hW : ∀ cls d σ1 σ2 K, W cls d σ1 K → W cls d σ2 K) (I : Inv X pins σ H s) (hi : PI X tg iter wi) (ok : BlkOk X.N X.env.scope scope own)
    (hg : ∀ (t : Shared) (K : Hp) (C : Addr) (cl : List (Str × Addr)) (fp : List Addr), PG (X.blk t K scope (compEnvC scope cl C X.env) fp) tg g)
    (ht : ∀ (t : Shared) (K : Hp) (C : Addr) (cl : List (Str × Addr)) (fp : List Addr), PTs (X.blk t K scope (compEnvC scope cl C X.env) fp) ifs tt)
    (hk : ∀ (t : Shared) (K : Hp) (C : Addr) (cl : List (Str × Addr)) (fp : List Addr), PE (X.blk t K scope (compEnvC scope cl C X.env) fp) kx tk')
    (he : ∀ (t : Shared) (K : Hp) (C : Addr) (cl : List (Str × Addr)) (fp : List Addr) (xe : Value → Shared → Prop), Takes ((X.blk t K scope (compEnvC scope cl C X.env) fp).tr [] xe) W → PE ((X.blk t K scope (compEnvC scope cl C X.env) fp).tr [] xe) vx tv)
    (hs : ∀ y, foldedSetIterable iter X.env y = pure y) (h : tDc wi g tt tk' tv (own.map (·.2)) σ H Q)
    (fin0 : ∀ D C s' m H', Inv X pins σ H' s' → Q (.ref D) H' → s'.heap.Ns C m → FpOk X pins H' C → compPost (model X.prog X.w) X.A X.xe use Qf (.ref D) C (.ok .next) s') :
    wpAny (model X.prog X.w) X.A (comprehension (.DictComp kx vx [⟨tg, iter, ifs, 0⟩] scope pos) scope X.env pos' (newDict) false (eval iter X.env) use) Qf X.xe s := by
  have caps : ∀ y ∈ scope.names, y.2 = .free → ∃ c, X.env.cells.lookup y.1 = some c := fun y hy e =>
    (ok.free y hy e).elim (fun k => I.ok.has _ (.inl k)) fun k => I.ok.has _ (.inr k)
  refine comprehension_at (use := use) rfl hs (closure_ok caps) ok.kind (fun y hy e => by rw [ok.uniq y hy, e]) ?_
  refine thn (hi.run pins s σ H _ I h) fun xv s1 hx => thn hx fun itv s2 h2 => ?_
  obtain ⟨it, fp, tn, J, H2, e, I2, T, st2, f2, q⟩ := h2
  subst e
  refine wpAny_newObj_type (newEnv_comp ?_)
  generalize hD : s2.heap.objs.size = D
  obtain ⟨V, ⟨m0, w0⟩, turn⟩ := q D (I2.hok.fresh (Nat.le_of_eq hD))
  generalize hs3 : ({ s2 with heap := s2.heap.push { cls := .type "dict", data := .dict #[] } } : Shared) = s3
  have I3 : Inv X pins σ (upd H2 D (.dK [])) s3 := by
    subst hs3
    refine I2.laid (t' := s2.toks) (fun b o e => Heap.get?_push_of_some _ e) (Nat.le_of_eq hD) ?_
    subst hD
    exact dk_empty s2.heap I2.big
  have h3 : s3.heap = s2.heap.push { cls := .type "dict", data := .dict #[] } := by subst hs3; rfl
  have f3 : ∀ b ∈ fp, FpOk X pins (upd H2 D (.dK [])) b ∧ b < s3.heap.objs.size := fun b hb => by
    obtain ⟨o, e, _⟩ := T.obj _ _ st2 b hb
    have below := Heap.lt_size e
    rw [h3, Heap.size_push]
    refine ⟨⟨?_, (f2 b hb).2⟩, Nat.lt_succ_of_lt below⟩
    rw [upd_ne (Nat.ne_of_lt (hD ▸ below))]
    exact (f2 b hb).1
  have st3 : tn 0 s3.heap := T.keep _ _ _ st2 fun b _ o e => by rw [h3]; exact Heap.get?_push_of_some _ e
  have I4 := block_start I3 ok hN f3
  have pG := hg s3 (upd H2 D (.dK [])) s3.heap.objs.size (cellsFrom (s3.heap.objs.size + 1) scope.names (cloFrom X.env.cells scope.names [])) fp
  have pT := ht s3 (upd H2 D (.dK [])) s3.heap.objs.size (cellsFrom (s3.heap.objs.size + 1) scope.names (cloFrom X.env.cells scope.names [])) fp
  have pK := hk s3 (upd H2 D (.dK [])) s3.heap.objs.size (cellsFrom (s3.heap.objs.size + 1) scope.names (cloFrom X.env.cells scope.names [])) fp
  have pE := he s3 (upd H2 D (.dK [])) s3.heap.objs.size (cellsFrom (s3.heap.objs.size + 1) scope.names (cloFrom X.env.cells scope.names [])) fp
  show codeAny _ _ (.compStart (.DictComp kx vx [⟨tg, iter, ifs, 0⟩] scope pos) 0 (.ref it) (.ref D) (compEnvC scope (cellsFrom (s3.heap.objs.size + 1) scope.names (cloFrom X.env.cells scope.names [])) s3.heap.objs.size X.env))
    (compEnds (model X.prog X.w) X.A X.xe use Qf (.ref D) (compEnvC scope (cellsFrom (s3.heap.objs.size + 1) scope.names (cloFrom X.env.cells scope.names [])) s3.heap.objs.size X.env)) { s3 with heap := pushCells (s3.heap.push { cls := .type "dict", data := .dict #[] }) scope.names }
  have nfp : ∀ b ∈ fp, (upd H2 D (.dK [])) b = none := fun b hb => (f3 b hb).1.1
  have hcf : (compEnvC scope (cellsFrom (s3.heap.objs.size + 1) scope.names (cloFrom X.env.cells scope.names [])) s3.heap.objs.size X.env).frame = X.env.frame := rfl
  have cL : (compEnvC scope (cellsFrom (s3.heap.objs.size + 1) scope.names (cloFrom X.env.cells scope.names [])) s3.heap.objs.size X.env).locals = s3.heap.objs.size := rfl
  generalize compEnvC scope (cellsFrom (s3.heap.objs.size + 1) scope.names (cloFrom X.env.cells scope.names [])) s3.heap.objs.size X.env = ce at I4 pG pT pK pE hcf cL ⊢
  generalize upd H2 D (.dK []) = H3 at I3 I4 pG pT pK pE w0 nfp f3
  have pE := pE (airX X s3 H3 scope ce fp W) air_takes
  generalize hs4 : ({ s3 with heap := pushCells (s3.heap.push { cls := .type "dict", data := .dict #[] }) scope.names } : Shared) = s4 at I4 ⊢
  have st4 : tn 0 s4.heap := T.keep _ _ _ st3 fun b _ o e => by subst hs4; exact pushCells_keeps _ _ _ _ (Heap.get?_push_of_some _ e)
  have stat : ∀ {σ1 : L2.St} {K : Hp} {t : Shared}, Inv (X.blk s3 H3 scope ce fp) [] σ1 K t → (∀ b ∈ fp, K b = none) → ∀ b ∈ fp, FpOk (X.blk s3 H3 scope ce fp) [] K b := fun I1 hn b hb =>
    ⟨hn b hb, (I1.ok.exf b hb).1, I1.ok.exfs b hb, .inl hb, fun y c e => (I1.ok.exf b hb).2 y c e, fun p hp => nomatch (show p ∈ ([] : List (Addr × Obj)) from hp)⟩
  have loop : codeAny (model X.prog X.w) X.A (.compLoop (.DictComp kx vx [⟨tg, iter, ifs, 0⟩] scope pos) 0 (.ref it) (.ref D) ce) (compEnds (model X.prog X.w) X.A X.xe use Qf (.ref D) ce) s4 := by
    refine compLoop_anyD (fun n t => ∃ i K, Inv (X.blk s3 H3 scope ce fp) [] (wipe σ (own.map (·.2))) K t ∧ tn i t.heap ∧ (∀ b ∈ fp, K b = none) ∧ V i n K) ?_ m0 ⟨0, H3, I4, st4, nfp, w0⟩
    rintro n s5 ⟨i, H5, I5, st5, n5, w5⟩
    rcases turn i n H5 w5 with ⟨stop, qq⟩ | ⟨go, Nx, hNx, step⟩
    · refine thnF (T.done (X.blk s3 H3 scope ce fp) rfl rfl rfl hc i [] s5 _ H5 (fun _ _ => False) I5 (stat I5 n5) st5 stop) fun r s6 hr => ?_
      obtain ⟨er, I6⟩ := hr
      subst er
      obtain ⟨m, n6, _⟩ := I6.loc
      have n6 : s6.heap.Ns ce.locals m := n6
      have c6 : H5 ce.locals = none := I6.free
      refine ends_ok (fin0 D ce.locals s6 m H5 (I3.call' (ch := fp) I6.os I6.base I6.hok I6.bare fun b hb => ?_) qq n6 (I3.fpOk (by rw [cL]; exact Nat.le_refl _) c6))
      have fb := (f3 b hb).1
      exact ⟨fb.2.2.2.1, fb.2.1, fb.2.2.2.2.1, fb.2.2.2.2.2⟩
    · refine thnF (T.item (X.blk s3 H3 scope ce fp) rfl rfl rfl hc i [] s5 _ H5 (fun _ _ => False) I5 (stat I5 n5) st5 go) fun r s6 hr => ?_
      obtain ⟨u, er, h6⟩ := hr
      subst er
      refine thnF h6 fun _ s7 hx7 => ?_
      obtain ⟨x, H7, I7, r7, y7, st7, n7⟩ := hx7
      refine thnF (pG.run _ s7 _ H7 x u _ (I7.pinned (stat I7 n7) (T.obj _ _ st7)) r7 (step x H7 y7)) fun _ s8 h8 => ?_
      obtain ⟨σ8, H8, I8, w8, q8⟩ := h8
      refine thnF (pT.run _ s8 σ8 H8 _ I8 q8) fun b s9 h9 => ?_
      obtain ⟨H9, I9, q9⟩ := h9
      have fin : ∀ {t : Shared} {K : Hp}, Inv (X.blk s3 H3 scope ce fp) ([] ++ pinsAt fp s7.heap) σ8 K t → Nx K → ∃ m, m < n ∧ ∃ i K, Inv (X.blk s3 H3 scope ce fp) [] (wipe σ (own.map (·.2))) K t ∧ tn i t.heap ∧ (∀ b ∈ fp, K b = none) ∧ V i m K := fun {t K} I1 nx => by
        obtain ⟨m1, lt1, w1⟩ := hNx K nx
        have held : ∀ b ∈ fp, ∀ o, s7.heap.get? b = some o → t.heap.get? b = some o ∧ K b = none := fun b hb o e =>
          have z := I1.pin (b, o) (List.mem_append_right _ (List.mem_append_right _ (mem_pinsAt hb e)))
          ⟨z.1, z.2.1⟩
        refine ⟨m1, lt1, i + 1, K, (I1.unpinned (pins := [])).weak (by rw [← w8, wipe_length]) (fun j v e => ?_), T.keep _ _ _ st7 fun b hb o e => (held b hb o e).1, fun b hb => ?_, w1⟩
        · rw [← w8] at e
          exact (wipe_some e).1
        · obtain ⟨o, e, _⟩ := T.obj _ _ st7 b hb
          exact (held b hb o e).2
      cases b with
      | false =>
        simp only [Bool.false_eq_true, if_false] at q9 ⊢
        exact fin I9 q9
      | true =>
        simp only [if_true] at q9 ⊢
        refine thnF (pK.run _ s9 σ8 H9 _ I9 q9) fun z s10 hz => ?_
        obtain ⟨yk, H10, I10, r10, q10⟩ := hz
        refine wpAny_mono (pE.run _ s10 σ8 H10 _ (inv_xe I10 _) q10) (fun z2 s11 hz2 => ?_) (fun u1 s1 x1 => block_fails tk hst hfr I3 hcf cL (fun b hb => (f3 b hb).1) hW x1)
        obtain ⟨yv, H11, I11, r11, kvs, k, ek, d11, z11, nx⟩ := hz2
        rw [ek] at r10
        exact d_dictSet (X := X.blk s3 H3 scope ce fp) (inv_ex (X := X.blk s3 H3 scope ce fp) I11) d11 z11 r10 r11 fun s12 I12 => fin I12 nx
  exact codeAny_compStart_dict loop (T.self X.A 0 _ _ _ st4 loop)
end
end RL
end
section
set_option maxRecDepth 100000
set_option maxHeartbeats 4000000
/-! comprehensions whose elements may raise: their readings (printed by rzc.py) -/
namespace RL
open PySem PySem.Spec L2
open PyProof.Rows hiding St
variable [Lams]
/-- within a block: the same wish, no lambda made -/
noncomputable def EB (E : EK) : EK := ⟨E.e, fun _ => none⟩
noncomputable def mLcTX (g : GM) (t : SM Bool) (e : SM W) (s0 : Env') (w : W) (acc : List W) (S : Store) : Res (List W) := (nox (g w s0 S)).bind fun s1 S1 => (nox (t s1 S1)).bind fun b S2 => if b = true then (e s1 S2).bind fun y S3 => if acc.length < lim then .ok (acc ++ [y]) S3 else .bad else .ok acc S2
noncomputable def mLcLX (g : GM) (t : SM Bool) (e : SM W) (s0 : Env') : List W → List W → Store → Res (List W)
  | [], acc, S => .ok acc S
  | w :: r, acc, S => (mLcTX g t e s0 w acc S).bind fun acc S => mLcLX g t e s0 r acc S
noncomputable def mLcNX (g : GM) (t : SM Bool) (e : SM W) (s0 : Env') (l : Nat → Store → Option (Option W)) : Nat → Nat → List W → Store → Res (List W)
  | 0, _, _, _ => .bad
  | n + 1, i, acc, S => match l i S with
    | none => .bad
    | some o => match o with
      | none => .ok acc S
      | some w => (mLcTX g t e s0 w acc S).bind fun acc S => mLcNX g t e s0 l n (i + 1) acc S
noncomputable def mLcIX (it : ItW) (g : GM) (t : SM Bool) (e : SM W) (s0 : Env') (S : Store) : Res (List W) := match it with
  | .fix ws => mLcLX g t e s0 ws [] S
  | .gen l => mLcNX g t e s0 l turns 0 [] S
noncomputable def mLcX (mi : SM ItW) (vs : List Nat) (g : GM) (t : SM Bool) (e : SM W) : SM W := fun s S => (mi s S).bind fun it S1 => (mLcIX it g t e (wipeW s vs) S1).bind fun acc S2 => .ok (.lst acc) S2
noncomputable def mDcTX (g : GM) (t : SM Bool) (k v : SM W) (s0 : Env') (w : W) (acc : KW) (S : Store) : Res KW :=
  (nox (g w s0 S)).bind fun s1 S1 => (nox (t s1 S1)).bind fun b S2 => if b = true then (nox (k s1 S2)).bind fun y S3 => (v s1 S3).bind fun z S4 => match keyW y with
    | some ky => if acc.length < lim then .ok (putW acc ky z) S4 else .bad
    | none => .bad
  else .ok acc S2
noncomputable def mDcLX (g : GM) (t : SM Bool) (k v : SM W) (s0 : Env') : List W → KW → Store → Res KW
  | [], acc, S => .ok acc S
  | w :: r, acc, S => (mDcTX g t k v s0 w acc S).bind fun acc S => mDcLX g t k v s0 r acc S
noncomputable def mDcNX (g : GM) (t : SM Bool) (k v : SM W) (s0 : Env') (l : Nat → Store → Option (Option W)) : Nat → Nat → KW → Store → Res KW
  | 0, _, _, _ => .bad
  | n + 1, i, acc, S => match l i S with
    | some (some w) => (mDcTX g t k v s0 w acc S).bind fun acc S => mDcNX g t k v s0 l n (i + 1) acc S
    | some none => .ok acc S
    | none => .bad
noncomputable def mDcIX (it : ItW) (g : GM) (t : SM Bool) (k v : SM W) (s0 : Env') (S : Store) : Res KW := match it with
  | .fix ws => mDcLX g t k v s0 ws [] S
  | .gen l => mDcNX g t k v s0 l turns 0 [] S
noncomputable def mDcX (mi : SM ItW) (vs : List Nat) (g : GM) (t : SM Bool) (k v : SM W) : SM W := fun s S => (mi s S).bind fun it S1 => (mDcIX it g t k v (wipeW s vs) S1).bind fun acc S2 => .ok (dicT acc) S2
section
variable {K : PySem.W.Frag} {mg : Str → Option Value} {ρ : RT} {H : Hp}
theorem REnv.blk {E E' : EK} {s : Env'} {σ : L2.St} (h : REnv K mg ρ H E' s σ) : REnv K mg ρ H (EB E) s σ := ⟨fun y c q => (nomatch q), h.len, h.look⟩
theorem Out.xbind {α β γ δ : Type} {E : XK} {R : Rl β α} {R' : Rl δ γ} {ρ1 ρ3 : RT} {H1 H3 : Hp} {r : Res α} {k : α → Store → Res γ} {Q : δ → Hp → Prop} {Z : β → Hp → Prop} (h : Out K mg R' E ρ1 H1 (r.bind k) Q) (x : Ext ρ1 H1 ρ3 H3)
    (f : ∀ ρ4 H4 a b S4, Ext ρ3 H3 ρ4 H4 → RepS K mg ρ4 H4 S4 → R ρ4 H4 a b → Out K mg R' E ρ1 H1 (k a S4) Q → Z b H4) : Out K mg R E ρ3 H3 r Z := by
  cases r with
  | ok w S => exact fun ρ4 H4 v e rep rw => f ρ4 H4 w v S e rep rw h
  | exc c ns ws S => exact ExcOut.ext x h
  | bad => exact h
end
section
variable {X : Cx} {E : EK} {pos : Pos} {tg iter elt kx vx : Expr} {ifs : List Expr} {scope : Scope} {own : List (Str × Nat)} {mi : SM ItW} {g : GM} {t : SM Bool} {me mk mv : SM W} {vs : List Nat}
theorem lcT_ofX {ρ1 ρ : RT} {H1 H : Hp} {s0 : Env'} {σ : L2.St} {D : Addr} {acc : List W} {accV : List V} {S : Store} {w : W} {x : V} {γ δ : Type} {R' : Rl δ γ} {k : List W → Store → Res γ} {Q : δ → Hp → Prop} {Nx : Hp → Prop}
    (hx : Ext ρ1 H1 ρ H) (rep : RepS X.K X.mg ρ H S) (hD : D ∈ ρ.t) (env : REnv X.K X.mg ρ H E s0 (wipe σ vs)) (r : RW X.K X.mg ρ H w x) (hd : H D = some (.lst accV)) (ra : RWs X.K X.mg ρ H acc accV)
    (o : Out X.K X.mg R' E ρ1 H1 ((mLcTX g t me s0 w acc S).bind k) Q)
    (hN : ∀ ρ' H' acc' accV' S', (∃ H2, Ext ρ H ρ' H2 ∧ ∃ u, H' = upd H2 D u ∨ H' = H2) → RepS X.K X.mg ρ' H' S' → H' D = some (.lst accV') → RWs X.K X.mg ρ' H' acc' accV' → Out X.K X.mg R' E ρ1 H1 (k acc' S') Q → Nx H') :
    tG X EN vs g x (wipe σ vs) H fun σ2 H2 => wipe σ2 vs = wipe σ vs ∧ tT X EN t σ2 H2 fun b H3 => if b = true then tE X (EB E) me σ2 H3 fun y H4 => ∃ acc, H4 D = some (.lst acc) ∧ acc.length < sizeLine ∧ Nx (upd H4 D (.lst (acc ++ [y]))) else Nx H3 := by
  unfold mLcTX at o
  rw [Res.bind_bind] at o
  refine ⟨ρ, s0, S, w, rep, env.no, r, Out.noxbind o fun ρ2 H2 s1 σ1 S2 e2 rep2 hh o2 => ⟨hh.2.trans (wipe_wipe fun _ h => h), ρ2, s1, S2, rep2, hh.1, ?_⟩⟩
  rw [Res.bind_bind] at o2
  refine Out.noxbind o2 fun ρ3 H3 b b' S3 e3 rep3 rb o3 => ?_
  cases rb
  have nr : D ∉ ρ.r := (rep.tk D hD).2
  have n2 : D ∉ ρ2.r := e2.not hd nr
  have hd2 := e2.keep _ _ hd nr
  have n3 : D ∉ ρ3.r := e3.not hd2 n2
  have hd3 := e3.keep _ _ hd2 n2
  have hD3 := e3.sub _ (e2.sub _ hD)
  cases b with
  | false =>
    rw [if_neg Bool.false_ne_true] at o3 ⊢
    exact hN ρ3 H3 acc accV S3 ⟨H3, e2.trans e3, .lst [], .inr rfl⟩ rep3 hd3 ((ra.ext e2).ext e3) o3
  | true =>
    rw [if_pos rfl] at o3 ⊢
    rw [Res.bind_bind] at o3
    refine ⟨ρ3, s1, S3, rep3, (hh.1.ext e3).blk, Out.xbind o3 ((hx.trans e2).trans e3) fun ρ4 H4 y y' S4 e4 rep4 r4 o4 => ?_⟩
    have hd4 := e4.keep _ _ hd3 n3
    have hD4 := e4.sub _ hD3
    have ra4 := (((ra.ext e2).ext e3).ext e4)
    split at o4
    · rename_i hz
      refine ⟨accV, hd4, by rw [← ra.length]; exact lim_lt hz, hN ρ4 _ (acc ++ [y]) (accV ++ [y']) S4 ⟨H4, (e2.trans e3).trans e4, _, .inl rfl⟩ (rep4.flux hD4) upd_same ((ra4.append (.cons r4 .nil)).flux hD4) o4⟩
    · exact o4.elim
theorem lc_ofX {mk : List W → Store → Res W} {σ : L2.St} {H : Hp} {Q : VK}
    (fin : ∀ (ρ1 ρ : RT) (H1 H : Hp) (D : Addr) (acc : List W) (accV : List V) (S : Store), (∀ a, a ∈ ρ1.t → a ∈ ρ.t) → H1 D = none → Ext ρ1 H1 ρ H → RepS X.K X.mg ρ H S → D ∈ ρ.t → H D = some (.lst accV) → RWs X.K X.mg ρ H acc accV → RepS X.K X.mg ⟨ρ.r, ρ1.t, ρ.ce⟩ H S → D ∉ ρ1.t → Out X.K X.mg (RW X.K X.mg) E ρ1 H1 (mk acc S) Q → Q (.ref D) H)
    (h : tE X E (fun s S => (mi s S).bind fun it S1 => (mLcIX it g t me (wipeW s vs) S1).bind mk) σ H Q) : tLc (tX X.K X.mg (RI X.K X.mg) E mi) (tG X EN vs g) (tT X EN t) (tE X (EB E) me) vs σ H Q :=
  tX.bind h fun ρ1 H1 it J s S1 rep env r o => fun D hD => by
    have np := rep.fresh hD
    obtain ⟨e0, rep0⟩ := rep.more (o := .lst []) hD
    -- the state behind some turns
    have go : ∀ {ρ ρ' : RT} {H H' : Hp} {accV : List V}, Ext ρ1 H1 ρ H → D ∉ ρ.r → (∃ H2, Ext ρ H ρ' H2 ∧ ∃ u, H' = upd H2 D u ∨ H' = H2) → Ext ρ1 H1 ρ' H' := fun {ρ ρ' H H' accV} e nr ⟨H2, e2, u, hu⟩ => by
      rcases hu with rfl | rfl
      · have e3 := e.trans e2
        exact ⟨e3.pre, e3.sub, e3.newt, fun b o hb n => by rw [upd_ne (ne_of_none hb hD)]; exact e3.keep b o hb n, e3.new, fun b m hb => by
          by_cases z : b = D
          · subst z; rw [upd_same]; simp
          · rw [upd_ne z]; exact e3.still b m hb, e3.ce⟩
      · exact e.trans e2
    cases it with
    | fix ws =>
      refine ⟨fun i m H' => m = ws.length - i ∧ i ≤ ws.length ∧ ∃ ρ acc accV S, Ext ρ1 H1 ρ H' ∧ RepS X.K X.mg ρ H' S ∧ D ∈ ρ.t ∧ H' D = some (.lst accV) ∧ RWs X.K X.mg ρ H' acc accV ∧ Out X.K X.mg (RW X.K X.mg) E ρ1 H1 ((mLcLX g t me (wipeW s vs) (ws.drop i) acc S).bind mk) Q,
        ⟨ws.length, by simp, Nat.zero_le _, ⟨ρ1.r, D :: ρ1.t, ρ1.ce⟩, [], [], S1, e0, rep0, List.mem_cons_self, upd_same, .nil, o⟩, ?_⟩
      rintro i m H' ⟨rfl, hle, ρ, acc, accV, S, e, rep', hDt, hd, ra, o'⟩
      have rr := r ρ H' S e rep' i
      by_cases hlt : i < ws.length
      · have hw : ws[i]? = some ws[i] := List.getElem?_eq_getElem hlt
        obtain ⟨go1, yl⟩ := rr.1 _ hw
        rw [List.drop_eq_getElem_cons hlt] at o'
        unfold mLcLX at o'
        rw [Res.bind_bind] at o'
        refine .inr ⟨go1, fun H2 => ∃ ρ acc accV S, Ext ρ1 H1 ρ H2 ∧ RepS X.K X.mg ρ H2 S ∧ D ∈ ρ.t ∧ H2 D = some (.lst accV) ∧ RWs X.K X.mg ρ H2 acc accV ∧ Out X.K X.mg (RW X.K X.mg) E ρ1 H1 ((mLcLX g t me (wipeW s vs) (ws.drop (i + 1)) acc S).bind mk) Q, fun H2 h2 => ⟨ws.length - (i + 1), by omega, rfl, hlt, h2⟩, fun x H2 hy => ?_⟩
        obtain ⟨e2, rep2, r2⟩ := yl x H2 hy
        have nr := (rep'.tk D hDt).2
        refine lcT_ofX (e.trans e2) rep2 hDt ((env_wipe env vs).ext (e.trans e2)) r2 (e2.keep _ _ hd nr) (ra.ext e2) o' fun ρ3 H3 acc3 accV3 S3 hx rep3 hd3 ra3 o3 => ?_
        refine ⟨ρ3, acc3, accV3, S3, go (accV := []) (e.trans e2) nr hx, rep3, ?_, hd3, ra3, o3⟩
        obtain ⟨Hx, ex, _⟩ := hx
        exact ex.sub _ hDt
      · have hi : ws.length = i := by omega
        rw [List.drop_eq_nil_of_le (Nat.le_of_eq hi)] at o'
        exact .inl ⟨rr.2 hi, fin ρ1 ρ H1 H' D acc accV S e.sub hD e rep' hDt hd ra (rep'.less e.sub) np.2 o'⟩
    | gen l =>
      refine ⟨fun i m H' => ∃ ρ acc accV S, Ext ρ1 H1 ρ H' ∧ RepS X.K X.mg ρ H' S ∧ D ∈ ρ.t ∧ H' D = some (.lst accV) ∧ RWs X.K X.mg ρ H' acc accV ∧ Out X.K X.mg (RW X.K X.mg) E ρ1 H1 ((mLcNX g t me (wipeW s vs) l m i acc S).bind mk) Q,
        ⟨turns, ⟨ρ1.r, D :: ρ1.t, ρ1.ce⟩, [], [], S1, e0, rep0, List.mem_cons_self, upd_same, .nil, o⟩, ?_⟩
      rintro i m H' ⟨ρ, acc, accV, S, e, rep', hDt, hd, ra, o'⟩
      cases m with
      | zero => exact o'.elim
      | succ m =>
        unfold mLcNX at o'
        have rr := r ρ H' S e rep' i
        cases e1 : l i S with
        | none => rw [e1] at o'; exact o'.elim
        | some u =>
          rw [e1] at o' rr
          cases u with
          | none => exact .inl ⟨rr, fin ρ1 ρ H1 H' D acc accV S e.sub hD e rep' hDt hd ra (rep'.less e.sub) np.2 o'⟩
          | some w =>
            dsimp only at o'
            rw [Res.bind_bind] at o'
            obtain ⟨go1, yl⟩ := rr
            refine .inr ⟨go1, fun H2 => ∃ ρ acc accV S, Ext ρ1 H1 ρ H2 ∧ RepS X.K X.mg ρ H2 S ∧ D ∈ ρ.t ∧ H2 D = some (.lst accV) ∧ RWs X.K X.mg ρ H2 acc accV ∧ Out X.K X.mg (RW X.K X.mg) E ρ1 H1 ((mLcNX g t me (wipeW s vs) l m (i + 1) acc S).bind mk) Q, fun H2 h2 => ⟨m, Nat.lt_succ_self m, h2⟩, fun x H2 hy => ?_⟩
            obtain ⟨e2, rep2, r2⟩ := yl x H2 hy
            have nr := (rep'.tk D hDt).2
            refine lcT_ofX (e.trans e2) rep2 hDt ((env_wipe env vs).ext (e.trans e2)) r2 (e2.keep _ _ hd nr) (ra.ext e2) o' fun ρ3 H3 acc3 accV3 S3 hx rep3 hd3 ra3 o3 => ?_
            refine ⟨ρ3, acc3, accV3, S3, go (accV := []) (e.trans e2) nr hx, rep3, ?_, hd3, ra3, o3⟩
            obtain ⟨Hx, ex, _⟩ := hx
            exact ex.sub _ hDt
/-- one turn, the dict so far at D -/
theorem dcT_ofX {ρ1 ρ : RT} {H1 H : Hp} {s0 : Env'} {σ : L2.St} {D : Addr} {acc : KW} {accV : List (Key × V)} {S : Store} {w : W} {x : V} {γ δ : Type} {R' : Rl δ γ} {kk : KW → Store → Res γ} {Q : δ → Hp → Prop} {Nx : Hp → Prop}
    (hx : Ext ρ1 H1 ρ H) (rep : RepS X.K X.mg ρ H S) (hD : D ∈ ρ.t) (env : REnv X.K X.mg ρ H E s0 (wipe σ vs)) (r : RW X.K X.mg ρ H w x) (hd : H D = some (.dK accV)) (ra : RKW X.K X.mg ρ H acc accV)
    (o : Out X.K X.mg R' E ρ1 H1 ((mDcTX g t mk mv s0 w acc S).bind kk) Q)
    (hN : ∀ ρ' H' acc' accV' S', (∃ H2, Ext ρ H ρ' H2 ∧ ∃ u, H' = upd H2 D u ∨ H' = H2) → RepS X.K X.mg ρ' H' S' → H' D = some (.dK accV') → RKW X.K X.mg ρ' H' acc' accV' → Out X.K X.mg R' E ρ1 H1 (kk acc' S') Q → Nx H') :
    tG X EN vs g x (wipe σ vs) H fun σ2 H2 => wipe σ2 vs = wipe σ vs ∧ tT X EN t σ2 H2 fun b H3 => if b = true then tE X EN mk σ2 H3 fun y H4 => tE X (EB E) mv σ2 H4 fun z H5 => ∃ kvs k, y = kV k ∧ H5 D = some (.dK kvs) ∧ kvs.length < sizeLine ∧ Nx (upd H5 D (.dK (putK kvs k z))) else Nx H3 := by
  unfold mDcTX at o
  rw [Res.bind_bind] at o
  refine ⟨ρ, s0, S, w, rep, env.no, r, Out.noxbind o fun ρ2 H2 s1 σ1 S2 e2 rep2 hh p2 => ⟨hh.2.trans (wipe_wipe fun _ m => m), ρ2, s1, S2, rep2, hh.1, ?_⟩⟩
  rw [Res.bind_bind] at p2
  refine Out.noxbind p2 fun ρ3 H3 b b' S3 e3 rep3 rb p3 => ?_
  cases rb
  have n2 : D ∉ ρ2.r := e2.not hd (rep.tk D hD).2
  have d2 := e2.keep _ _ hd (rep.tk D hD).2
  have n3 : D ∉ ρ3.r := e3.not d2 n2
  have d3 := e3.keep _ _ d2 n2
  have t3 := e3.sub _ (e2.sub _ hD)
  cases b with
  | false =>
    rw [if_neg Bool.false_ne_true] at p3 ⊢
    exact hN ρ3 H3 acc accV S3 ⟨H3, e2.trans e3, .dK [], .inr rfl⟩ rep3 d3 ((ra.ext e2).ext e3) p3
  | true =>
    rw [if_pos rfl] at p3 ⊢
    rw [Res.bind_bind] at p3
    refine ⟨ρ3, s1, S3, rep3, hh.1.ext e3, Out.noxbind p3 fun ρ4 H4 y y' S4 e4 rep4 r4 p4 => ⟨ρ4, s1, S4, rep4, ((hh.1.ext e3).ext e4).blk, ?_⟩⟩
    rw [Res.bind_bind] at p4
    refine Out.xbind p4 (((hx.trans e2).trans e3).trans e4) fun ρ5 H5 z z' S5 e5 rep5 r5 p5 => ?_
    have d4 := e4.keep _ _ d3 n3
    have d5 := e5.keep _ _ d4 (e4.not d3 n3)
    have t5 := e5.sub _ (e4.sub _ t3)
    have ra5 := (((ra.ext e2).ext e3).ext e4).ext e5
    cases hk : keyW y with
    | none => rw [hk] at p5; exact p5.elim
    | some ky =>
      rw [hk] at p5
      dsimp only at p5
      split at p5
      · rename_i hz
        refine ⟨accV, ky, keyW_of r4 hk, d5, by rw [← ra.len]; exact lim_lt hz, hN ρ5 _ (putW acc ky z) (putK accV ky z') S5 ⟨H5, ((e2.trans e3).trans e4).trans e5, _, .inl rfl⟩ (rep5.flux t5) upd_same ((ra5.put r5).map fun q => q.flux t5) p5⟩
      · exact p5.elim
theorem dc_ofX {σ : L2.St} {H : Hp} {Q : VK} (h : tE X E (mDcX mi vs g t mk mv) σ H Q) : tDc (tX X.K X.mg (RI X.K X.mg) E mi) (tG X EN vs g) (tT X EN t) (tE X EN mk) (tE X (EB E) mv) vs σ H (FrzQ Q) :=
  tX.bind h fun ρ1 H1 it J s S1 rep env r o => fun D hD => by
    have np := rep.fresh hD
    obtain ⟨e0, rep0⟩ := rep.more (o := .dK []) hD
    have go : ∀ {ρ ρ' : RT} {H H' : Hp}, Ext ρ1 H1 ρ H → (∃ H2, Ext ρ H ρ' H2 ∧ ∃ u, H' = upd H2 D u ∨ H' = H2) → Ext ρ1 H1 ρ' H' := fun {ρ ρ' H H'} e ⟨H2, e2, u, hu⟩ => by
      have e3 := e.trans e2
      rcases hu with hu | hu
      · subst hu
        refine ⟨e3.pre, e3.sub, e3.newt, fun b ob hb n => ?_, e3.new, fun b m hb => ?_, e3.ce⟩
        · rw [upd_ne (ne_of_none hb hD)]; exact e3.keep b ob hb n
        · by_cases z : b = D
          · rw [z, upd_same]; exact Option.some_ne_none _
          · rw [upd_ne z]; exact e3.still b m hb
      · rw [hu]; exact e3
    -- where some turns are done
    let At : (KW → Store → Res W) → Hp → Prop := fun k H' => ∃ ρ acc accV S, Ext ρ1 H1 ρ H' ∧ RepS X.K X.mg ρ H' S ∧ D ∈ ρ.t ∧ H' D = some (.dK accV) ∧ RKW X.K X.mg ρ H' acc accV ∧ Out X.K X.mg (RW X.K X.mg) E ρ1 H1 (k acc S) Q
    have step : ∀ {ρ : RT} {H2 : Hp} {acc : KW} {accV : List (Key × V)} {S : Store} {w : W} {x : V} {kk : KW → Store → Res W}, Ext ρ1 H1 ρ H2 → RepS X.K X.mg ρ H2 S → D ∈ ρ.t → H2 D = some (.dK accV) → RKW X.K X.mg ρ H2 acc accV → RW X.K X.mg ρ H2 w x →
        Out X.K X.mg (RW X.K X.mg) E ρ1 H1 ((mDcTX g t mk mv (wipeW s vs) w acc S).bind kk) Q → tG X EN vs g x (wipe σ vs) H2 fun σ2 H2 => wipe σ2 vs = wipe σ vs ∧ tT X EN t σ2 H2 fun b H3 => if b = true then tE X EN mk σ2 H3 fun y H4 => tE X (EB E) mv σ2 H4 fun z H5 => ∃ kvs k, y = kV k ∧ H5 D = some (.dK kvs) ∧ kvs.length < sizeLine ∧ At kk (upd H5 D (.dK (putK kvs k z))) else At kk H3 :=
      fun e rep2 ht hd2 ra2 r2 o2 => dcT_ofX e rep2 ht ((env_wipe env vs).ext e) r2 hd2 ra2 o2 fun ρ3 H3 acc3 accV3 S3 hx rep3 hd3 ra3 o3 => ⟨ρ3, acc3, accV3, S3, go e hx, rep3, by obtain ⟨Hx, ex, _⟩ := hx; exact ex.sub _ ht, hd3, ra3, o3⟩
    cases it with
    | fix ws =>
      refine ⟨fun i m H' => m = ws.length - i ∧ i ≤ ws.length ∧ At (fun acc S => (mDcLX g t mk mv (wipeW s vs) (ws.drop i) acc S).bind fun acc S2 => .ok (dicT acc) S2) H', ⟨_, rfl, Nat.zero_le _, ⟨ρ1.r, D :: ρ1.t, ρ1.ce⟩, [], [], S1, e0, rep0, List.mem_cons_self, upd_same, .nil, o⟩, ?_⟩
      rintro i m H' ⟨rfl, hle, ρ, acc, accV, S, e, rep', ht, hd, ra, o'⟩
      have rr := r ρ H' S e rep' i
      rcases Nat.lt_or_ge i ws.length with hlt | hge
      · obtain ⟨g1, yl⟩ := rr.1 _ (List.getElem?_eq_getElem hlt)
        rw [List.drop_eq_getElem_cons hlt] at o'
        unfold mDcLX at o'
        dsimp only at o'
        rw [Res.bind_bind] at o'
        refine .inr ⟨g1, At fun acc S => (mDcLX g t mk mv (wipeW s vs) (ws.drop (i + 1)) acc S).bind fun acc S2 => .ok (dicT acc) S2, fun H2 q => ⟨ws.length - (i + 1), by omega, rfl, hlt, q⟩, fun x H2 hy => ?_⟩
        obtain ⟨e2, rep2, r2⟩ := yl x H2 hy
        exact step (e.trans e2) rep2 (e2.sub _ ht) (e2.keep _ _ hd (rep'.tk D ht).2) (ra.ext e2) r2 o'
      · have hi : ws.length = i := by omega
        rw [List.drop_eq_nil_of_le hge] at o'
        dsimp only at o'
        exact .inl ⟨rr.2 hi, dc_fin hD e rep' ht hd ra np.2 o'⟩
    | gen l =>
      refine ⟨fun i m H' => At (fun acc S => (mDcNX g t mk mv (wipeW s vs) l m i acc S).bind fun acc S2 => .ok (dicT acc) S2) H', ⟨turns, ⟨ρ1.r, D :: ρ1.t, ρ1.ce⟩, [], [], S1, e0, rep0, List.mem_cons_self, upd_same, .nil, o⟩, ?_⟩
      rintro i m H' ⟨ρ, acc, accV, S, e, rep', ht, hd, ra, o'⟩
      cases m with
      | zero => exact o'.elim
      | succ m =>
        dsimp only at o'
        unfold mDcNX at o'
        have rr := r ρ H' S e rep' i
        cases e1 : l i S with
        | none => rw [e1] at o'; exact o'.elim
        | some u =>
          rw [e1] at o' rr
          cases u with
          | none => exact .inl ⟨rr, dc_fin hD e rep' ht hd ra np.2 o'⟩
          | some w =>
            dsimp only at o'
            rw [Res.bind_bind] at o'
            obtain ⟨g1, yl⟩ := rr
            refine .inr ⟨g1, At fun acc S => (mDcNX g t mk mv (wipeW s vs) l m (i + 1) acc S).bind fun acc S2 => .ok (dicT acc) S2, fun H2 q => ⟨m, Nat.lt_succ_self m, q⟩, fun x H2 hy => ?_⟩
            obtain ⟨e2, rep2, r2⟩ := yl x H2 hy
            exact step (e.trans e2) rep2 (e2.sub _ ht) (e2.keep _ _ hd (rep'.tk D ht).2) (ra.ext e2) r2 o'
/-- the block's part, at every entry -/
structure BlkX (X : Cx) (E : EK) (scope : Scope) (tg : Expr) (ifs : List Expr) (elt : Expr) (vs : List Nat) (g : GM) (t : SM Bool) (me : SM W) : Prop where
  g : ∀ (s : Shared) (H : Hp) (C : Addr) (cl : List (Str × Addr)) (fp : List Addr), PGM (X.blk s H scope (compEnvC scope cl C X.env) fp) EN tg vs g
  t : ∀ (s : Shared) (H : Hp) (C : Addr) (cl : List (Str × Addr)) (fp : List Addr), PTsM (X.blk s H scope (compEnvC scope cl C X.env) fp) EN ifs t
  e : ∀ (s : Shared) (H : Hp) (C : Addr) (cl : List (Str × Addr)) (fp : List Addr) (xe : Value → Shared → Prop), Takes ((X.blk s H scope (compEnvC scope cl C X.env) fp).tr [] xe) (fun c d _ H => EB E c d H) → PM ((X.blk s H scope (compEnvC scope cl C X.env) fp).tr [] xe) (EB E) elt me
structure BlkDX (X : Cx) (E : EK) (scope : Scope) (tg : Expr) (ifs : List Expr) (kx vx : Expr) (vs : List Nat) (g : GM) (t : SM Bool) (mk mv : SM W) : Prop where
  g : ∀ (s : Shared) (H : Hp) (C : Addr) (cl : List (Str × Addr)) (fp : List Addr), PGM (X.blk s H scope (compEnvC scope cl C X.env) fp) EN tg vs g
  t : ∀ (s : Shared) (H : Hp) (C : Addr) (cl : List (Str × Addr)) (fp : List Addr), PTsM (X.blk s H scope (compEnvC scope cl C X.env) fp) EN ifs t
  k : ∀ (s : Shared) (H : Hp) (C : Addr) (cl : List (Str × Addr)) (fp : List Addr), PM (X.blk s H scope (compEnvC scope cl C X.env) fp) EN kx mk
  v : ∀ (s : Shared) (H : Hp) (C : Addr) (cl : List (Str × Addr)) (fp : List Addr) (xe : Value → Shared → Prop), Takes ((X.blk s H scope (compEnvC scope cl C X.env) fp).tr [] xe) (fun c d _ H => EB E c d H) → PM ((X.blk s H scope (compEnvC scope cl C X.env) fp).tr [] xe) (EB E) vx mv
theorem pm_dcX (hc : X.calm = true) (tk : Takes X (fun c d _ H => E c d H)) (hst : X.stack = X.env :: X.outer) (hfr : X.env.frame = some X.env.locals) (hN : X.N.Nodup) (hi : PIM' X E tg iter mi) (ok : blkC X.N X.env.scope scope own = true) (hb : BlkDX X E scope tg ifs kx vx (slots own) g t mk mv) (hs : ∀ x, foldedSetIterable iter X.env x = pure x := by intro _; rfl) :
    PM X E (.DictComp kx vx [⟨tg, iter, ifs, 0⟩] scope pos) (mDcX mi (slots own) g t mk mv) := by
  refine ⟨fun pins s σ H Q I h => ?_⟩
  rw [arm_eval_DictComp]
  refine dc_coreX (Q := FrzQ Q) (g := tG X EN (slots own) g) (tt := tT X EN t) (tk' := tE X EN mk) (tv := tE X (EB E) mv) (W := fun c d _ H => E c d H) hc hN tk hst hfr (fun _ _ _ _ _ z => z) I hi (blkOk_by ok) hb.g hb.t hb.k hb.v hs (dc_ofX h) fun D C s' m H' I' q hn f => ⟨m, hn, fun h2 sb => ?_⟩
  have I2 := I'.turned (t' := s'.toks) (fun b o hb e => (sb.2 b hb).trans e) f.1 f.2.1 f.2.2.2.1 f.2.2.2.2.1 f.2.2.2.2.2
  obtain ⟨d, u, ex, hd, mu, k⟩ := q
  cases ex
  obtain ⟨od, I3⟩ := I2.lock hd mu
  exact ⟨.ref D, _, I3, rfl, k od⟩
/-- y = [..] -/
theorem psm_setLcX (i : Nat) {y : Str} {py spos : Pos} (hc : X.calm = true) (tk : Takes X (fun c d _ H => E c d H)) (hst : X.stack = X.env :: X.outer) (hfr : X.env.frame = some X.env.locals) (hN : X.N.Nodup) (hi : PIM' X E tg iter mi) (ok : blkC X.N X.env.scope scope own = true) (hb : BlkX X E scope tg ifs elt (slots own) g t me) (hy : X.N[i]? = some y := by rfl) (hyl : X.env.scope.names.lookup y = some .local := by rfl)
    (hsw : swapsWith (.ListComp elt [⟨tg, iter, ifs, 0⟩] scope pos) (some (.Name y py)) spos.line X.env = pure true := by exact sw_true rfl rfl rfl (by decide +kernel)) (hs : ∀ x, foldedSetIterable iter X.env x = pure x := by intro _; rfl) :
    PSM X E (.Assign [.Name y py] (.ListComp elt [⟨tg, iter, ifs, 0⟩] scope pos) spos) (mAsg (mLcX mi (slots own) g t me) (gNm i)) := by
  refine ⟨fun pins s σ H D I ⟨ρ, s0, S, rep, env, o⟩ => ?_⟩
  rw [exec_Assign_Name_used _ _ _ _ hsw]
  refine wpAny_bind (wpAny_standAt (wpAny_bind ?_))
  have h : tLc (tX X.K X.mg (RI X.K X.mg) E mi) (tG X EN (slots own) g) (tT X EN t) (tE X (EB E) me) (own.map (·.2)) σ H (fun x H1 => gName i x σ H1 D.nx) := lc_ofX (E := E) (fun ρ1 ρ H1 H D acc accV S _ hD e rep hDt hd ra rep2 nt o => lc_fin hD e rep hDt hd ra rep2 nt o)
    ⟨ρ, s0, S, rep, env, OutS.bind o fun ρ1 H1 w x S1 e1 rep1 r1 o1 => OutS.nx (s := s0.set i (some w)) o1 rep1 ((env.ext e1).set i r1)⟩
  show wpAny _ X.A (do let _ ← comprehension (.ListComp elt [⟨tg, iter, ifs, 0⟩] scope pos) scope X.env (firstIterPos [⟨tg, iter, ifs, 0⟩] pos) (newList []) false (eval iter X.env) (some (assign (.Name y py) X.env))) _ _ s
  refine wpAny_bind (thn (lc_coreX (g := tG X EN (slots own) g) (tt := tT X EN t) (te := tE X (EB E) me) (Qf := fun _ s' => SP X pins D .next s') (W := fun c d _ H => E c d H) hc hN tk hst hfr (fun _ _ _ _ _ z => z) I hi (blkOk_by ok) hb.g hb.t hb.e hs h fun l C s' m H' I' q hn f => ?_) fun _ s' hq => wpAny_pure (wpAny_pure hq))
  refine wpAny_assign_Name (store_ok2 (v := V.ref l) I' hN hy (.inl hyl) rfl (fun s2 I2 hm => ?_) (.inr hyl))
  obtain ⟨a, sb, ha⟩ := hm
  have Ca : C ≠ a := ha.elim (fun z => by rw [z]; exact f.2.1) fun z q => f.2.2.2.2.1 y a z q.symm
  refine ⟨m, hn.sameBut sb Ca, fun h3 sb3 => ⟨_, H', I2.turned (t' := s2.toks) (fun b o hb e => (sb3.2 b hb).trans e) f.1 f.2.1 f.2.2.2.1 f.2.2.2.2.1 f.2.2.2.2.2, q⟩⟩
end
end RL
end
section
set_option maxRecDepth 100000
set_option maxHeartbeats 4000000
/-! methods with **rest, called by keyword -/
namespace RL
open PySem PySem.Spec L2
open PyProof.Rows hiding St
variable [Lams]
/-! ### the dict that is filled by the binder -/
section
variable {prog : Program} {w : World} {A : Around} {E : Value → Shared → Prop} {D : Addr}
theorem ns_put {s : Shared} {es : List DictEntry} {n : Nat} {k : Str} {v : Value} {Q : Unit → Shared → Prop} (hD : s.heap.get? D = some (PySem.W.dictOf es n)) (hs : ∀ e ∈ es, e.key.isStr k = false) (hr : ∀ e ∈ es, e.refKey = false)
    (h : ∀ h2, (∀ b, b ≠ D → h2.get? b = s.heap.get? b) → h2.get? D = some (PySem.W.dictOf (es ++ [⟨PyData.keyHash w.params k, .str k s.toks, v⟩]) (n + 1)) → Q () { s with heap := h2, toks := s.toks + 1 }) : wpAny (model prog w) A (nsSet D k v) Q E s := by
  have none1 : es.any (·.key.isStr k) = false := List.any_eq_false.mpr fun e m => by rw [hs e m]; exact Bool.false_ne_true
  have none2 : es.any (·.refKey) = false := List.any_eq_false.mpr fun e m => by rw [hr e m]; exact Bool.false_ne_true
  have put : Obj.putName k (PyData.keyHash w.params k) (.str k s.toks) v (PySem.W.dictOf es n) = PySem.W.dictOf (es ++ [⟨PyData.keyHash w.params k, .str k s.toks, v⟩]) (n + 1) := by
    rw [PySem.W.putName_dict, PySem.W.putL_new hs]
    show PySem.W.dictOf _ (if es.any (·.key.isStr k) then n else n + 1) = _
    rw [none1, if_neg Bool.false_ne_true]
  have free : aRefKeyMayBeTheName k es.toArray = false := by
    rw [aRefKeyMayBeTheName_at, ← Array.any_toList, ← Array.any_toList]
    show (!es.any (·.key.isStr k) && es.any (·.refKey)) = false
    rw [none2, Bool.and_false]
  unfold nsSet
  refine wpAny_bind (wpAny_bind (wpAny_askSetting (wpAny_pure (wpAny_bind (wpAny_mkText (wpAny_bind (wpAny_loadPart hD ?_)))))))
  dsimp only
  rw [free]
  refine wpAny_updatePart hD (h _ (fun b n => Heap.get?_update_other _ _ (Ne.symm n)) ?_)
  rw [Heap.get?_update_self _ hD (by show (Obj.putName k (PyData.keyHash w.params k) (.str k s.toks) v (PySem.W.dictOf es n)).isFreed = false; rw [put]; rfl)]
  exact congrArg some put
theorem ns_fill {Q : PUnit → Shared → Prop} : ∀ (ex : List (Str × Value)) (s : Shared) (es : List DictEntry) (n : Nat), s.heap.get? D = some (PySem.W.dictOf es n) →
    (∀ e ∈ es, ∀ x ∈ ex, e.key.isStr x.1 = false) → (∀ e ∈ es, e.refKey = false) → (ex.map (·.1)).Nodup →
    (∀ h2, (∀ b, b ≠ D → h2.get? b = s.heap.get? b) → h2.get? D = some (PySem.W.dictOf (es ++ PySem.W.kwEs w.params s.toks ex) (n + ex.length)) → Q ⟨⟩ { s with heap := h2, toks := s.toks + ex.length }) →
    wpAny (model prog w) A (forIn ex PUnit.unit fun x _ => (nsSet D x.1 x.2 >>= fun _ => pure (ForInStep.yield PUnit.unit))) Q E s
  | [], s, es, n, hD, _, _, _, h => by
    rw [List.forIn_nil]
    refine wpAny_pure (h s.heap (fun _ _ => rfl) ?_)
    show _ = some (PySem.W.dictOf (es ++ []) n)
    rw [List.append_nil]; exact hD
  | x :: r, s, es, n, hD, hs, hr, hn, h => by
    rw [List.map_cons, List.nodup_cons] at hn
    rw [List.forIn_cons]
    refine wpAny_bind (wpAny_bind (ns_put hD (fun e m => hs e m x List.mem_cons_self) hr fun h2 k1 k2 => wpAny_pure ?_))
    refine ns_fill r { s with heap := h2, toks := s.toks + 1 } _ _ k2 (fun e m y hy => ?_) (fun e m => ?_) hn.2 fun h3 k3 k4 => ?_
    · rcases List.mem_append.mp m with m | m
      · exact hs e m y (List.mem_cons_of_mem _ hy)
      · rw [List.mem_singleton.mp m]
        show (x.1 == y.1) = false
        exact beq_eq_false_iff_ne.mpr fun q => hn.1 (q ▸ List.mem_map_of_mem hy)
    · rcases List.mem_append.mp m with m | m
      · exact hr e m
      · rw [List.mem_singleton.mp m]; rfl
    · have z := h h3 (fun b q => (k3 b q).trans (k1 b q)) (by
        rw [k4, List.append_assoc]
        show some (PySem.W.dictOf _ (n + 1 + r.length)) = some (PySem.W.dictOf _ (n + (r.length + 1)))
        rw [show n + 1 + r.length = n + (r.length + 1) from by omega]
        rfl)
      have t : s.toks + (x :: r).length = s.toks + 1 + r.length := by rw [List.length_cons]; omega
      rw [t] at z
      exact z
end
/-- the dict of what was given by keyword -/
noncomputable def kwsW (ks : List Str) (ws : List W) : KW := (ks.zip ws).map fun p => (.inr p.1, p.2)
noncomputable def kwsV (ks : List Str) (vs : List V) : List (Key × V) := (ks.zip vs).map fun p => (.inr p.1, p.2)
theorem rkw_kws {K : PySem.W.Frag} {mg : Str → Option Value} {ρ : RT} {H : Hp} : ∀ {ks : List Str} {ws : List W} {vs : List V}, RWs K mg ρ H ws vs → RKW K mg ρ H (kwsW ks ws) (kwsV ks vs)
  | [], _, _, _ => .nil
  | _ :: _, _, _, .nil => .nil
  | _ :: ks, _, _, .cons r t => .cons r (rkw_kws (ks := ks) t)
theorem mix_entries {prog : Program} {w : World} : ∀ (ex : List (Str × Value)) (t : Tok), Pairs (mixKind prog w) (PySem.W.kwEs w.params t ex) (ex.map fun p => (.inr p.1, p.2))
  | [], _ => .nil
  | x :: r, t => .cons (PySem.strKind_is prog w x.1 t) rfl (mix_entries r (t + 1))
theorem kws_dict {P : Program} {w : World} {H : Hp} {h : Heap} {D : Addr} {ks : List Str} {us : List Value} {vs : List V} {t n : Nat} (hD : h.get? D = some (PySem.W.dictOf (PySem.W.kwEs w.params t (ks.zip us)) n)) (hn : ks.Nodup) (hl : ks.length = us.length) (hz : ks.length ≤ 1000) (r : Vals vs us) (hm : (D == sysModules) = false) :
    ObjOk P w H h D (.dK (kwsV ks vs)) := by
  refine dk_new (vs := (ks.zip us).map fun p => (.inr p.1, p.2)) ?_ hm ?_ ⟨_, (PySem.W.kwEs w.params t (ks.zip us)).toArray, n, hD, ⟨rfl, rfl, rfl⟩, rfl, fun e m => ?_, ?_, ?_⟩
  · unfold kwsV
    rw [List.length_map, List.length_zip]
    exact Nat.le_trans (Nat.min_le_left _ _) (Nat.le_trans hz (by decide))
  · have go : ∀ (ks : List Str) (us : List Value) (vs : List V), Vals vs us → KV (kwsV ks vs) ((ks.zip us).map fun p => (Sum.inr p.1, p.2)) := by
      intro ks
      induction ks with
      | nil => exact fun _ _ _ => .nil
      | cons k ks ih =>
        intro us vs r
        cases r with
        | nil => exact .nil
        | cons a r => exact .cons ⟨rfl, a⟩ (ih _ _ r)
    exact go ks us vs r
  · obtain ⟨k, u, e1, e2⟩ := PySem.W.kwEs_key _ _ e (List.mem_toArray.mp m)
    exact ⟨.inr k, by rw [e1]; exact PySem.strKind_is P w k u, e2.trans rfl⟩
  · exact mix_entries _ _
  · rw [List.map_map]
    have : ((fun x : Key × Value => x.1) ∘ fun p : Str × Value => ((.inr p.1 : Key), p.2)) = fun p => Sum.inr p.1 := rfl
    rw [this]
    have e : (ks.zip us).map (fun p : Str × Value => (Sum.inr p.1 : Key)) = ks.map Sum.inr := by
      have := List.map_fst_zip (l₁ := ks) (l₂ := us) (by omega)
      calc (ks.zip us).map (fun p : Str × Value => (Sum.inr p.1 : Key)) = ((ks.zip us).map Prod.fst).map Sum.inr := by rw [List.map_map]; rfl
        _ = _ := by rw [this]
    rw [e]
    exact List.Pairwise.map Sum.inr (fun a b h q => h (by cases q; rfl)) hn
/-! ### a def with **rest -/
section
variable {P : Program} {w : World} {K : PySem.W.Frag} {mg : Str → Option Value} {base : Heap}
/-- a new object ahead of a def's body -/
theorem env0_new {A : Around} {outer : List Env} {s : Shared} {H : Hp} {u : HO} {h2 : Heap} {t2 : Nat} (e0 : Env0 P w K mg base A outer s H) (kp : ∀ b x, s.heap.get? b = some x → h2.get? b = some x) (hh : h2.get? s.heap.objs.size ≠ none) (new : ObjOk P w (upd H s.heap.objs.size u) h2 s.heap.objs.size u) :
    Env0 P w K mg base A outer { s with heap := h2, toks := t2 } (upd H s.heap.objs.size u) := by
  have lt : s.heap.objs.size < h2.objs.size := by
    cases q : h2.get? s.heap.objs.size with
    | none => exact absurd q hh
    | some o => exact Heap.lt_size q
  refine ⟨e0.frames, e0.mod, fun b x e => ⟨kp b x (e0.bs b x e).1, by rw [upd_ne (Nat.ne_of_lt (Heap.lt_size (e0.bs b x e).1))]; exact (e0.bs b x e).2⟩, Nat.le_trans e0.bsz (Nat.le_of_lt lt), Heap.FunFrames.of_keeps (fun b x e _ => ⟨x, kp b x e, rfl⟩) e0.funs, fun b m => ?_, e0.hok.laid kp (Nat.le_refl _) new, e0.bare⟩
  obtain ⟨_, x, q, _⟩ := e0.funs.mem m
  rw [upd_ne (Nat.ne_of_lt (Heap.lt_size q))]
  exact e0.frf b m
/-- the call of the def at f with so many places, the rest by keyword ks -/
noncomputable def FnKw (P : Program) (w : World) (K : PySem.W.Frag) (mg : Str → Option Value) (base : Heap) (k : Nat) (f : Addr) (ks : List Str) (sp : List V → List V → Hp → VK → XK → Prop) : Prop :=
  ∀ (A : Around) (outer : List Env) (s : Shared) (H : Hp) (us ys : List Value) (vs ws : List V) (Q : VK) (E : XK), Room k A → Env0 P w K mg base A outer s H → Vals vs us → Vals ws ys → sp vs ws H Q E → codeAny (model P w) A (.call (.ref f) ⟨us, ks.zip ys⟩) (CR (L2.CX P w) outer P w H s Q E) s
/-- what the binder does with a **rest -/
noncomputable def bindsKw (fd : FuncData) (ps ks : List Str) (pd : Str) (us ys : List Value) : Prop :=
  bindArgs fd ⟨us, ks.zip ys⟩ = ((alloc { cls := .type "dict", data := .dict #[] } : Sem Addr) >>= fun d => (forIn (ks.zip ys) PUnit.unit fun x _ => (nsSet d x.1 x.2 >>= fun _ => pure (ForInStep.yield PUnit.unit))) >>= fun _ => pure (ps.zip us ++ [(pd, Value.ref d)]))
/-- a method with **rest, worth g: what it has by place, then the dict -/
noncomputable def KwE (P : Program) (w : World) (K : PySem.W.Frag) (mg : Str → Option Value) (base : Heap) (k : Nat) (c m q : Str) (st : Stmt) (ps : List Str) (pd : Str) (g : Fn) : Prop :=
  ∃ C f, mg c = some (.ref C) ∧ Cls K C ∧ Meth K C m f ∧ ∀ ks : List Str, ks.Nodup → ks.length ≤ 1000 →
    (∀ (kV doc pm : Value) (an : Option Addr) (cdv ct : Value) (us ys : List Value), us.length = ps.length → ys.length = ks.length → bindsKw (PySem.W.fnOf m q (defArgs st) (defBody st) (defScope st) .none kV doc pm an cdv ct) ps ks pd us ys) →
    FnKw P w K mg base k f ks (fun vs ws H Q E => ws.length = ks.length ∧ ∃ ρ S xs zs, RepS K mg ρ H S ∧ RWs K mg ρ H xs vs ∧ RWs K mg ρ H zs ws ∧ xs.length = ps.length ∧ Out K mg (RW K mg) E ρ H (g (xs ++ [dicT (kwsW ks zs)]) S) Q)
noncomputable def KwTx (K : PySem.W.Frag) (mg : Str → Option Value) (c m q : Str) (st : Stmt) : Prop :=
  ∃ (C f : Addr) (oc : Value) (od : Option Addr) (kV doc pm : Value) (an : Option Addr) (cdv ct : Value) (osl : Array (Option Value)), mg c = some (.ref C) ∧ Cls K C ∧ Meth K C m f ∧
    K.lookup f = some ⟨oc, od, .func (PySem.W.fnOf m q (defArgs st) (defBody st) (defScope st) .none kV doc pm an cdv ct), osl⟩ ∧ PySem.W.codeIn K cdv q = true
theorem kw_e {c m q pd : Str} {st : Stmt} {N ps : List Str} {k : Nat} {b : SS} (T : KwTx K mg c m q st) (Sc : FnScope N (ps ++ [pd]) (defScope st))
    (hb : ∀ (f : Addr) (cdv : Value) (A : Around) (outer : List Env) (s : Shared) (H : Hp) (E : EK), Room k (A.deeper (envOfC q (defScope st) s.heap.objs.size f cdv)) → Takes (cxOf (L2.CX P w) P w K mg base N q (defScope st) f cdv A outer s H E) (fun c d _ H => E c d H) → PSsM (cxOf (L2.CX P w) P w K mg base N q (defScope st) f cdv A outer s H E) E (defBody st) b) :
    KwE P w K mg base (k + 1) c m q st ps pd (runB N.length b) := by
  obtain ⟨C, f, oc, od, kV, doc, pm, an, cdv, ct, osl, h1, h2, h3, lk, hcd⟩ := T
  refine ⟨C, f, h1, h2, h3, fun ks hnd hz hB A outer s H us ys vs ws Q E hr e0 rv rw ⟨lw, ρ, S, xs, zs, rep, rx, rz, lx, o⟩ => ?_⟩
  have ly : ys.length = ks.length := by rw [← rw.length]; exact lw
  have lu : us.length = ps.length := by rw [← rv.length, ← rx.length]; exact lx
  have fresh : H s.heap.objs.size = none := e0.hok.fresh (Nat.le_refl _)
  refine StX.run_bnd lk hcd Sc hr e0 (G := fun ts H2 => ∃ p od, H p = none ∧ ts = vs ++ [V.ref p] ∧ H2 = upd H p (.frz od (.dK (kwsV ks ws)))) (fun A' Ex Q' h => ?_) fun s2 H2 ts ⟨p, od, hp, et, eH⟩ hr' => ?_
  · have hbi := hB kV doc pm an cdv ct us ys lu ly
    unfold bindsKw at hbi
    rw [hbi]
    refine wpAny_bind (wpAny_alloc (wpAny_bind ?_))
    have at0 : (s.heap.push { cls := .type "dict", data := .dict #[] }).get? s.heap.objs.size = some (PySem.W.dictOf [] 0) := Heap.get?_push_size _ rfl
    refine ns_fill (ks.zip ys) { s with heap := s.heap.push { cls := .type "dict", data := .dict #[] } } [] 0 at0 (fun _ m => nomatch m) (fun _ m => nomatch m) ?_ fun h2 k1 k2 => wpAny_pure ?_
    · rw [List.map_fst_zip (by omega)]; exact hnd
    · have kp : ∀ b x, s.heap.get? b = some x → h2.get? b = some x := fun b x e => (k1 b (Nat.ne_of_lt (Heap.lt_size e))).trans (Heap.get?_push_of_some _ e)
      rw [List.nil_append] at k2
      generalize hod : PySem.W.dictOf (PySem.W.kwEs w.params s.toks (ks.zip ys)) (0 + (ks.zip ys).length) = od at k2
      have dk : ObjOk P w (upd H s.heap.objs.size (.frz od (.dK (kwsV ks ws)))) h2 s.heap.objs.size (.frz od (.dK (kwsV ks ws))) := ⟨k2, kws_dict (by rw [hod]; exact k2) hnd ly.symm hz rw (beq_eq_false_iff_ne.mpr (Nat.ne_of_gt (StX.env0_big e0)))⟩
      have un : Un (frs outer) [] H (upd H s.heap.objs.size (.frz od (.dK (kwsV ks ws)))) s.heap h2 := Un.laid kp (Nat.le_refl _) fresh
      have z := h { s with heap := h2, toks := s.toks + (ks.zip ys).length } _ (vs ++ [V.ref s.heap.objs.size]) (us ++ [Value.ref s.heap.objs.size]) (env0_new e0 kp (by rw [k2]; exact Option.some_ne_none _) dk) un rfl
        (fun e s' => StX.cxUp outer s H _ _ E e s' un kp rfl) (rv.append (.cons rfl .nil)) (by rw [List.length_append, List.length_append, rv.length, lu]; rfl) ⟨_, od, fresh, rfl, rfl⟩
      rw [List.zip_append lu.symm] at z
      exact z
  · subst et eH
    obtain ⟨e1, rep1⟩ := rep.tree hp (.frz od (.dK (kwsV ks ws)))
    refine ⟨_, hb f cdv A outer s2 (upd H p (.frz od (.dK (kwsV ks ws)))) ⟨E, fun _ => none⟩ hr' (takes_of rfl rfl rfl rfl), ?_⟩
    have rall : RWs K mg ρ (upd H p (.frz od (.dK (kwsV ks ws)))) (xs ++ [dicT (kwsW ks zs)]) (vs ++ [V.ref p]) := (rx.ext e1).append (.cons (rw_dic (fx_new rep hp _) (rkw_kws (rz.ext e1))) .nil)
    refine ⟨ρ, startW N.length (xs ++ [dicT (kwsW ks zs)]), S, rep1, env_start rall (fun _ _ q => nomatch q), ?_⟩
    have o := Out.ext e1 o
    unfold runB at o
    show OutS K mg ⟨E, fun _ => none⟩ ρ _ (b (startW N.length (xs ++ [dicT (kwsW ks zs)])) S) _
    cases e : b (startW N.length (xs ++ [dicT (kwsW ks zs)])) S with
    | ok p S1 =>
      obtain ⟨fl, s1⟩ := p
      rw [e] at o
      cases fl with
      | nx => exact fun ρ' H' σ' x rep' env' => o ρ' H' .non x rep' .non
      | rt u => exact o
      | bk => exact o.elim
      | ct => exact o.elim
    | exc c ns ws' S1 => rw [e] at o; exact o
    | bad => rw [e] at o; exact o
end
end RL
end
section
set_option maxRecDepth 100000
set_option maxHeartbeats 4000000
/-! for k in d over a dict that stays; methods called by keyword -/
namespace RL
open PySem PySem.Spec L2
open PyProof.Rows hiding St
variable [Lams]
/-! ### for k in d -/
noncomputable def mItemsD (m : SM W) : SM ItW := fun s S => (m s S).bind fun w S1 => match w with
  | .dic ks _ => .ok (.fix (ks.map wKey)) S1
  | _ => .bad
section
variable {K : PySem.W.Frag} {mg : Str → Option Value} {ρ : RT} {H : Hp}
theorem rit_dic {d : Addr} {od : Obj} {ks : List Key} {vs : List V} (hf : Fx ρ H d (.frz od (.dK (ks.zip vs)))) (hl : ks.length = vs.length) : RIt K mg ρ H (ks.map wKey) (Itk d od (ks.zip vs)) := fun ρ' H' S' e rep i => by
  have at' : H' d = some (.frz od (.dK (ks.zip vs))) := (hf.ext e).1
  have zl : (ks.zip vs).length = ks.length := by rw [List.length_zip]; omega
  refine ⟨fun w hw => ?_, fun hi => ⟨at', ?_⟩⟩
  · rw [List.getElem?_map] at hw
    cases hk : ks[i]? with
    | none => rw [hk] at hw; cases hw
    | some k =>
      rw [hk] at hw
      cases hw
      have lt := (List.getElem?_eq_some_iff.mp hk).1
      refine ⟨⟨at', by rw [zl]; exact lt⟩, fun x H2 hy => ?_⟩
      obtain ⟨rfl, k', v, h1, rfl⟩ := hy
      rw [List.getElem?_zip_eq_some] at h1
      have := h1.1
      rw [hk] at this
      cases this
      exact ⟨Ext.refl _ _, rep, wKey_rw _⟩
  · rw [zl, ← hi, List.length_map]; exact Nat.le_refl _
end
section
variable {X : Cx} {E : EK} {tg a : Expr} {ma : SM W}
theorem pim_dict (ha : PM X E a ma) : PIM' X E tg a (mItemsD ma) := pi_imp (pi_keys ha) fun σ H R h => tX.bind h fun ρ1 H1 w x s S1 rep env r o => by
  cases w with
  | dic ks ws =>
    cases r with
    | dic hf hl hr =>
      obtain ⟨od, hf⟩ := hf
      exact ⟨_, od, rfl, .inl ⟨_, hf.1, Out.here o rep (rit_dic hf hl)⟩⟩
  | _ => exact o.elim
end
/-! ### o.m(k = v, ..) where the def has **rest -/
noncomputable def mMethKw (c m : Str) (g : Fn) (ks : List Str) (mo : SM W) (mk : SM (List W)) : SM W := fun s S => (mo s S).bind fun w S1 => match insAt S1 w with
  | some (c', ns, _) => if c' = c ∧ ns.contains m = false then (mk s S1).bind fun zs S2 => g [w, dicT (kwsW ks zs)] S2 else .bad
  | none => .bad
section
variable {X : Cx} {E : EK} {pos apos : Pos} {o : Expr} {kws : List Keyword} {mo : SM W} {mk : SM (List W)} {c m q slf pd : Str} {k k' nb : Nat} {st : Stmt} {g : Fn} {pl : Sem Bool}
/-- what is run at the end -/
theorem kw_go {f : Addr} {ks : List Str} {sp : List V → List V → Hp → VK → XK → Prop} (F : FnKw X.prog X.w X.K X.mg X.base k f ks sp) (hr : Room k X.A) (tk : Takes X (fun c d _ H => E c d H))
    {pins : List (Addr × Obj)} {σ : L2.St} {H : Hp} {s : Shared} {Q : VK} {us ys : List Value} {vs ws : List V} (I : Inv X pins σ H s) (rv : Vals vs us) (rw : Vals ws ys) (h : sp vs ws H Q E) : wpAny (model X.prog X.w) X.A (call (.ref f) us (ks.zip ys)) (EP X pins σ Q) X.xe s := by
  refine wpAny_call (codeAny_mono (F X.A X.stack s H us ys vs ws Q E hr I.env0 rv rw h) fun r s' hq => ?_)
  cases r with
  | error e => exact passM tk pins σ H s e s' I hq
  | ok fl =>
    cases fl with
    | ret u => exact I.after hq
    | next => exact False.elim hq
    | brk => exact False.elim hq
    | cont => exact False.elim hq
theorem pm_methKw [hl : Len mk nb] (ks : List Str) (F : KwE X.prog X.w X.K X.mg X.base k c m q st [slf] pd g) (hr : Room k' X.A) (hk : k ≤ k') (tk : Takes X (fun c d _ H => E c d H)) (ho : PM X E o mo) (hkw : PKM X E kws mk)
    (hB : ∀ (kV doc pm : Value) (an : Option Addr) (cdv ct : Value) (us ys : List Value), us.length = 1 → ys.length = ks.length → bindsKw (PySem.W.fnOf m q (defArgs st) (defBody st) (defScope st) .none kV doc pm an cdv ct) [slf] ks pd us ys)
    (hn : ks.Nodup := by decide +kernel) (hz : ks.length ≤ 1000 := by decide) (hkl : ks.length = nb := by rfl) (hks : (backToKw pos (keywordEach kws X.env)).filterMap (·.1) = ks := by rfl)
    (hall : (backToKw pos (keywordEach kws X.env)).all (·.1.isSome) = true := by rfl)
    (hpl : ((backTo pos (starEach [] X.env)).any (·.1) || (backToKw pos (keywordEach kws X.env)).any (·.1.isNone)) = false := by rfl)
    (ht : eval (.Call (.Attribute o m apos) [] kws pos) X.env = (do
      let ov ← eval o X.env
      standAt apos.atName
      let (f, first) ← holding [ov] (getMethod ov m pl)
      callWith pos f first (backTo pos (starEach [] X.env)) (backToKw pos (keywordEach kws X.env))) := by rfl) : PM X E (.Call (.Attribute o m apos) [] kws pos) (mMethKw c m g ks mo mk) := by
  obtain ⟨C, f, h1, h2, h3, F⟩ := F
  have F := F ks hn hz hB
  refine ⟨fun pins s σ H Q I h => ?_⟩
  have step : tE X E mo σ H fun x H1 => ∃ a C' dx fs, x = .ref a ∧ C' = C ∧ H1 a = some (.ins C' dx fs) ∧ fs.lookup m = none ∧ tA X E mk σ H1 fun ws H2 => ws.length = ks.length ∧ ∃ ρ S xs zs, RepS X.K X.mg ρ H2 S ∧ RWs X.K X.mg ρ H2 xs [.ref a] ∧ RWs X.K X.mg ρ H2 zs ws ∧ xs.length = 1 ∧ Out X.K X.mg (RW X.K X.mg) E ρ H2 (g (xs ++ [dicT (kwsW ks zs)]) S) Q :=
    tX.bind h fun ρ1 H1 w x s S1 rep env r out => by
      cases e1 : insAt S1 w with
      | none => rw [e1] at out; exact out.elim
      | some p =>
        obtain ⟨c', ns, ws0⟩ := p
        rw [e1] at out
        dsimp only at out
        split at out
        · rename_i hcc
          obtain ⟨hcc, hnm⟩ := hcc
          subst hcc
          obtain ⟨a, C', dx, vs0, rfl, hm, ha, hla, hra⟩ := insAt_of rep r e1
          rw [h1] at hm; cases hm
          refine ⟨a, _, dx, _, rfl, rfl, ha, lookup_not hnm, ρ1, s, S1, rep, env, ?_⟩
          cases e2 : mk s S1 with
          | ok zs S2 =>
            rw [e2] at out
            exact fun ρ2 H2 ws x rep2 r2 => ⟨by rw [← r2.length, hkl]; exact hl.len _ _ _ _ e2, ρ2, S2, [w], zs, rep2, .cons (r.ext x) .nil, r2, rfl, Out.ext x out⟩
          | exc c ns ws S2 => rw [e2] at out; exact out
          | bad => rw [e2] at out; exact out
        · exact out.elim
  refine PySem.W.methodCall_KW (pl := pl) (thn (ho.run pins s σ H _ I step) fun u s1 ⟨x, H1, I1, rx, a, C', dx, fs, ex, eC, ea, l, q⟩ => ?_) ht
  subst ex eC
  obtain rfl : u = Value.ref a := rx
  refine getmeth_ok I1 ea h2 h3 l ?_
  refine PySem.W.callWith_KW0 (first := [.ref a]) (h₀ := X.base) I.ok.mod.kin h3.kp hall ?_ hpl
  refine thn (hkw.run pos pins s1 σ H1 _ I1 q) fun ys s2 ⟨ws, H2, I2, rz, lw, q2⟩ => ⟨I2.kIn, ?_⟩
  rw [hks]
  exact kw_go (us := [.ref a]) (vs := [.ref a]) F (hr.mono hk) tk I2 (.cons rfl .nil) rz ⟨lw, q2⟩
/-- o.m() -/
theorem pm_methKw0 (F : KwE X.prog X.w X.K X.mg X.base k c m q st [slf] pd g) (hr : Room k' X.A) (hk : k ≤ k') (tk : Takes X (fun c d _ H => E c d H)) (ho : PM X E o mo)
    (hB : ∀ (kV doc pm : Value) (an : Option Addr) (cdv ct : Value) (us ys : List Value), us.length = 1 → ys.length = 0 → bindsKw (PySem.W.fnOf m q (defArgs st) (defBody st) (defScope st) .none kV doc pm an cdv ct) [slf] [] pd us ys)
    (ht : eval (.Call (.Attribute o m apos) [] [] pos) X.env = (do
      let ov ← eval o X.env
      standAt apos.atName
      let (f, first) ← holding [ov] (getMethod ov m pl)
      callWith pos f first (backTo pos (starEach [] X.env)) (backToKw pos (keywordEach [] X.env))) := by rfl) : PM X E (.Call (.Attribute o m apos) [] [] pos) (mMethKw c m g [] mo mNil) := by
  obtain ⟨C, f, h1, h2, h3, F⟩ := F
  have F := F [] .nil (by decide) hB
  refine ⟨fun pins s σ H Q I h => ?_⟩
  have step : tE X E mo σ H fun x H1 => ∃ a C' dx fs, x = .ref a ∧ C' = C ∧ H1 a = some (.ins C' dx fs) ∧ fs.lookup m = none ∧ ∃ ρ S xs zs, RepS X.K X.mg ρ H1 S ∧ RWs X.K X.mg ρ H1 xs [.ref a] ∧ RWs X.K X.mg ρ H1 zs [] ∧ xs.length = 1 ∧ Out X.K X.mg (RW X.K X.mg) E ρ H1 (g (xs ++ [dicT (kwsW [] zs)]) S) Q :=
    tX.bind h fun ρ1 H1 w x s S1 rep env r out => by
      cases e1 : insAt S1 w with
      | none => rw [e1] at out; exact out.elim
      | some p =>
        obtain ⟨c', ns, ws0⟩ := p
        rw [e1] at out
        dsimp only at out
        split at out
        · rename_i hcc
          obtain ⟨hcc, hnm⟩ := hcc
          subst hcc
          obtain ⟨a, C', dx, vs0, rfl, hm, ha, hla, hra⟩ := insAt_of rep r e1
          rw [h1] at hm; cases hm
          exact ⟨a, _, dx, _, rfl, rfl, ha, lookup_not hnm, ρ1, S1, [w], [], rep, .cons r .nil, .nil, rfl, out⟩
        · exact out.elim
  refine PySem.W.methodCall_KW (pl := pl) (thn (ho.run pins s σ H _ I step) fun u s1 ⟨x, H1, I1, rx, a, C', dx, fs, ex, eC, ea, l, q⟩ => ?_) ht
  subst ex eC
  obtain rfl : u = Value.ref a := rx
  refine getmeth_ok I1 ea h2 h3 l ?_
  exact PySem.W.callWith_K0 (first := [.ref a]) I1.kIn h3.kp (kw_go (us := [.ref a]) (vs := [.ref a]) (ys := []) (ws := []) F (hr.mono hk) tk I1 (.cons rfl .nil) .nil ⟨rfl, q⟩)
end
end RL
end
section
set_option maxRecDepth 100000
set_option maxHeartbeats 4000000
/-! x in d; the text facts of a method with **rest -/
namespace RL
open PySem PySem.Spec L2
open PyProof.Rows hiding St
variable [Lams]
section
variable {X : Cx} {E : EK}
theorem om_dIn (hu : X.A.units + 1 < cLine) : OpM X E (compareOp .In) (gDIn false) := by
  intro pins s σ H x y v u Q I rx ry ⟨ρ, S, w1, w2, rep, r1, r2, o⟩
  unfold gDIn at o
  cases e1 : dicAt S w2 with
  | none => rw [e1] at o; exact o.elim
  | some kws =>
    cases e2 : keyW w1 with
    | none => rw [e1, e2] at o; exact o.elim
    | some k =>
      rw [e1, e2] at o
      obtain ⟨a, kvs, rfl, ha, rk⟩ := dicAt_of rep r2 e1
      have := keyW_of r1 e2
      subst this
      obtain rfl : u = Value.ref a := ry
      refine d_in hu I (DGet.kR (k := k) ha) rx fun s' I' => ⟨.bl (valV kvs k).isSome, H, I', rfl, ?_⟩
      have e : (valW kws k).isSome = (valV kvs k).isSome := by
        rcases rk.val (k := k) with ⟨h1, h2⟩ | ⟨_, _, h1, h2, _⟩ <;> rw [h1, h2] <;> rfl
      have o : Out X.K X.mg (RW X.K X.mg) E ρ H (.ok (.bl (valW kws k).isSome) S) Q := by
        have o := o
        dsimp only at o
        cases hb : (valW kws k).isSome <;> rw [hb] at o <;> exact o
      rw [← e]
      exact Out.here o rep (.bl _)
end
section
variable {K : PySem.W.Frag} {h : Heap} {mg : Str → Option Value} {c m q : Str} {C g : Addr} {st : Stmt} {oc : Value} {od an : Option Addr} {sl : Array (Option Value)} {kV dc pm cd ct : Value}
theorem kwtx_mk (X : K.In h) (G : h.Ns mainGlobals mg) (a : PySem.W.nsIn K mainGlobals c = some (some (.ref C))) (T : ClsT K mg c) (at_ : PySem.W.findIn K (.ref C) m = some (some (.ref g))) (fn : PySem.W.isFn K (.ref g) = true)
    (l : K.lookup g = some ⟨oc, od, .func (PySem.W.fnOf m q (defArgs st) (defBody st) (defScope st) .none kV dc pm an cd ct), sl⟩) (cod : PySem.W.codeIn K cd q = true) (k : PySem.W.keepIn K (.ref g) = true) : KwTx K mg c m q st :=
  ⟨C, g, oc, od, kV, dc, pm, an, cd, ct, sl, PySem.W.mg_of X G a, T.at (PySem.W.mg_of X G a), ⟨at_, fn, k⟩, l, cod⟩
end
end RL
end
section
set_option maxRecDepth 100000
set_option maxHeartbeats 4000000
/-! the same as simp lemmas -/
namespace RL
open PySem PySem.Spec L2
open PyProof.Rows hiding St
variable [Lams]
section
variable {g : GM} {t : SM Bool} {e k v : SM W} {s s0 : Env'} {S : Store} {w : W} {r ws : List W} {acc : List W} {ka : KW} {mi : SM ItW} {vs : List Nat} {m : SM W}
@[simp] theorem mLcTX_eq : mLcTX g t e s0 w acc S = (nox (g w s0 S)).bind fun s1 S1 => (nox (t s1 S1)).bind fun b S2 => if b = true then (e s1 S2).bind fun y S3 => if acc.length < lim then .ok (acc ++ [y]) S3 else .bad else .ok acc S2 := rfl
@[simp] theorem mLcLX_nil : mLcLX g t e s0 [] acc S = .ok acc S := rfl
@[simp] theorem mLcLX_cons : mLcLX g t e s0 (w :: r) acc S = (mLcTX g t e s0 w acc S).bind fun acc S => mLcLX g t e s0 r acc S := rfl
@[simp] theorem mLcIX_fix : mLcIX (.fix ws) g t e s S = mLcLX g t e s ws [] S := rfl
@[simp] theorem mLcX_eq : mLcX mi vs g t e s S = (mi s S).bind fun it S1 => (mLcIX it g t e (wipeW s vs) S1).bind fun acc S2 => .ok (.lst acc) S2 := rfl
@[simp] theorem mDcTX_eq : mDcTX g t k v s0 w ka S = (nox (g w s0 S)).bind fun s1 S1 => (nox (t s1 S1)).bind fun b S2 => if b = true then (nox (k s1 S2)).bind fun y S3 => (v s1 S3).bind fun z S4 => match keyW y with
    | some ky => if ka.length < lim then .ok (putW ka ky z) S4 else .bad
    | none => .bad
  else .ok ka S2 := rfl
@[simp] theorem mDcLX_nil : mDcLX g t k v s0 [] ka S = .ok ka S := rfl
@[simp] theorem mDcLX_cons : mDcLX g t k v s0 (w :: r) ka S = (mDcTX g t k v s0 w ka S).bind fun acc S => mDcLX g t k v s0 r acc S := rfl
@[simp] theorem mDcIX_fix : mDcIX (.fix ws) g t k v s S = mDcLX g t k v s ws [] S := rfl
@[simp] theorem mDcX_eq : mDcX mi vs g t k v s S = (mi s S).bind fun it S1 => (mDcIX it g t k v (wipeW s vs) S1).bind fun acc S2 => .ok (dicT acc) S2 := rfl
end
end RL
end
section
set_option maxRecDepth 100000
set_option maxHeartbeats 4000000
/-! own operators where the other operand is of any simple type -/
namespace PySem.W
open PySem PySem.Calls PyProof.Rows
section
variable {prog : Program} {w : World} {A : Around} {E : Value → Shared → Prop} {s : Shared} {K : Frag} {x C L f g : Addr} {h₀ : Heap} {m : Str → Option Value} {ox : Obj} {od : Option Obj} {T : String}
/-- x op b, b of a builtin type -/
theorem oa_fwd {op : Operator} {b : Value} {fo ro rc : Option Value} {Q : Value → Shared → Prop} (F : Fr h₀ L s.heap m) (X₀ : K.In h₀) (I : InstAt s.heap x ox C od) (tb : Looks (model prog w) s.heap (typeOf b) (.type T)) (hc : selfFirst K C = true)
    (hs : findIn K (.ref C) (PySem.dunder op.info.2) = some (some (.ref f))) (hf : isFn K (.ref f) = true) (hr : findIn K (.ref C) (dunderR op.info.2) = some rc) (hp : rc = none ∨ ∃ g : Addr, rc = some (.ref g))
    (h1 : findIn K (.type T) (PySem.dunder op.info.2) = some fo) (h2 : findIn K (.type T) (dunderR op.info.2) = some ro) (hsub : subIn K (.type T) (.ref C) = some false)
    (h : wpAny (model prog w) A (call (.ref f) [.ref x, b]) (CmpBack Q) E s) : wpAny (model prog w) A (binaryOp op (.ref x) b) Q E s := by
  have X := X₀.keeps F.keep
  obtain ⟨cd, rest, hcd, hm⟩ := ksp_first hc
  rcases e0 : op.info with ⟨sg, nm⟩
  rw [e0] at hs hr h1 h2
  dsimp only at hs hr h1 h2
  have go := ksp_try X I hs hf h
  obtain ⟨hh, gg, dd, tt, os⟩ := s
  have a1 : Looks (model prog w) hh (typeOf (.ref x)) (.ref C) := I.type
  have a2 : Looks (model prog w) hh (fillsNumberSlot (.ref C) nm) true := fills_K X hcd hm hs
  have a3 : Looks (model prog w) hh (fillsNumberSlot (.type T) nm) ((fo.isSome && !isSeqSlot fo) || (ro.isSome && !isSeqSlot ro)) := ksp_fillsT X h1 h2
  have a4 : Looks (model prog w) hh (isSubtype (.type T) (.ref C)) false := looks_subIn X hsub
  have a5 : Looks (model prog w) hh (numberSlotInPython (.ref C) nm) true := ksp_inPy X hs hr hp
  have a6 : Looks (model prog w) hh (numberSlotInPython (.type T) nm) false := Looks.of_pure rfl
  have a7 : Looks (model prog w) hh (typeLookup (.type T) (dunderR nm)) ro := looks_findIn X h2
  have ne : (Value.ref C == Value.type T) = false := Bool.eq_false_iff.mpr fun z => by cases beq_iff_eq.mp z
  generalize ((fo.isSome && !isSeqSlot fo) || (ro.isSome && !isSeqSlot ro)) = fills at a3
  simp only [binaryOp, e0]
  refine wpAny_holding (wpAny_bind ?_)
  unfold binaryOp1
  refine wpAny_bind (a1.at (wpAny_bind (tb.at (wpAny_bind (a2.at ?_)))))
  simp only [ne, Bool.false_eq_true, if_false]
  cases fills
  all_goals
    repeat ((fail_if_success (with_reducible show wpAny _ _ (tryMethod _ _ _) _ _ _)); lk)
    refine wpAny_mono go (fun z t hz => ?_) fun _ _ q => q
    obtain ⟨y, rfl, hy⟩ := hz
    repeat ((fail_if_success (with_reducible show wpAny _ _ (tryMethod _ _ _) _ _ _)); lk)
    exact hy
/-- a op x, where a's type has no such operator -/
theorem oa_rev {op : Operator} {a : Value} {Q : Value → Shared → Prop} (F : Fr h₀ L s.heap m) (X₀ : K.In h₀) (I : InstAt s.heap x ox C od) (ta : Looks (model prog w) s.heap (typeOf a) (.type T)) (hc : selfFirst K C = true)
    (hs : findIn K (.ref C) (PySem.dunder op.info.2) = some (some (.ref g))) (hr : findIn K (.ref C) (dunderR op.info.2) = some (some (.ref f))) (hf : isFn K (.ref f) = true)
    (h1 : findIn K (.type T) (PySem.dunder op.info.2) = some none) (h2 : findIn K (.type T) (dunderR op.info.2) = some none)
    (h : wpAny (model prog w) A (call (.ref f) [.ref x, a]) (CmpBack Q) E s) : wpAny (model prog w) A (binaryOp op a (.ref x)) Q E s := by
  have X := X₀.keeps F.keep
  obtain ⟨cd, rest, hcd, hm⟩ := ksp_first hc
  rcases e0 : op.info with ⟨sg, nm⟩
  rw [e0] at hs hr h1 h2
  dsimp only at hs hr h1 h2
  have go := ksp_try X I hr hf h
  obtain ⟨hh, gg, dd, tt, os⟩ := s
  have a1 : Looks (model prog w) hh (typeOf (.ref x)) (.ref C) := I.type
  have a2 : Looks (model prog w) hh (fillsNumberSlot (.ref C) nm) true := fills_K X hcd hm hs
  have a3 : Looks (model prog w) hh (fillsNumberSlot (.type T) nm) false := ksp_fillsT X h1 h2
  have ne : (Value.type T == Value.ref C) = false := Bool.eq_false_iff.mpr fun z => by cases beq_iff_eq.mp z
  simp only [binaryOp, e0]
  refine wpAny_holding (wpAny_bind ?_)
  unfold binaryOp1
  refine wpAny_bind (ta.at (wpAny_bind (a1.at (wpAny_bind (a3.at ?_)))))
  simp only [ne, Bool.false_eq_true, if_false]
  repeat ((fail_if_success (with_reducible show wpAny _ _ (tryMethod _ _ _) _ _ _)); lk)
  refine wpAny_mono go (fun z t hz => ?_) fun _ _ q => q
  obtain ⟨y, rfl, hy⟩ := hz
  repeat ((fail_if_success (with_reducible show wpAny _ _ (tryMethod _ _ _) _ _ _)); lk)
  exact hy
/-- a op x, where a's type has the operator and declines -/
theorem oa_dec {op : Operator} {a : Value} {id : String} {Q : Value → Shared → Prop} (F : Fr h₀ L s.heap m) (X₀ : K.In h₀) (I : InstAt s.heap x ox C od) (ta : ∀ s' : Shared, s'.TypeIs a T) (tl : Looks (model prog w) s.heap (typeOf a) (.type T)) (hc : selfFirst K C = true)
    (hs : findIn K (.ref C) (PySem.dunder op.info.2) = some (some (.ref g))) (hr : findIn K (.ref C) (dunderR op.info.2) = some (some (.ref f))) (hf : isFn K (.ref f) = true)
    (hfT : fillsNumberSlot (.type T) op.info.2 = pure true) (hsub : subIn K (.ref C) (.type T) = some false) (hl : Slot T (PySem.dunder op.info.2) id)
    (hd : wpAny (model prog w) A (call (.builtin id) [a, .ref x]) (fun v s' => v = .notImplemented ∧ s' = s) E s)
    (h : wpAny (model prog w) A (call (.ref f) [.ref x, a]) (CmpBack Q) E s) : wpAny (model prog w) A (binaryOp op a (.ref x)) Q E s := by
  have X := X₀.keeps F.keep
  obtain ⟨cd, rest, hcd, hm⟩ := ksp_first hc
  rcases e0 : op.info with ⟨sg, nm⟩
  rw [e0] at hs hr hfT hl
  dsimp only at hs hr hfT hl
  have go := ksp_try X I hr hf h
  have dec := wpAny_tryMethod_declines (Q := fun o s' => o = none ∧ s' = s) (ta s) hl (wpAny_mono hd (fun v s' q => ⟨q.1, rfl, q.2⟩) fun _ _ q => q)
  have a1 : Looks (model prog w) s.heap (typeOf (.ref x)) (.ref C) := I.type
  have a2 : Looks (model prog w) s.heap (fillsNumberSlot (.ref C) nm) true := fills_K X hcd hm hs
  have a3 : Looks (model prog w) s.heap (fillsNumberSlot (.type T) nm) true := Looks.of_pure hfT
  have a4 : Looks (model prog w) s.heap (isSubtype (.ref C) (.type T)) false := looks_subIn X hsub
  have a6 : Looks (model prog w) s.heap (numberSlotInPython (.type T) nm) false := Looks.of_pure rfl
  have ne : (Value.type T == Value.ref C) = false := Bool.eq_false_iff.mpr fun z => by cases beq_iff_eq.mp z
  obtain ⟨hh, gg, dd, tt, os⟩ := s
  simp only [binaryOp, e0]
  refine wpAny_holding (wpAny_bind ?_)
  unfold binaryOp1
  refine wpAny_bind (tl.at (wpAny_bind (a1.at (wpAny_bind (a3.at ?_)))))
  simp only [ne, Bool.false_eq_true, if_false]
  repeat ((fail_if_success (with_reducible show wpAny _ _ (tryMethod _ _ _) _ _ _)); lk)
  refine wpAny_mono dec (fun z t hz => ?_) fun _ _ q => q
  obtain ⟨rfl, rfl⟩ := hz
  repeat ((fail_if_success (with_reducible show wpAny _ _ (tryMethod _ _ _) _ _ _)); lk)
  refine wpAny_mono go (fun z t hz => ?_) fun _ _ q => q
  obtain ⟨y, rfl, hy⟩ := hz
  repeat ((fail_if_success (with_reducible show wpAny _ _ (tryMethod _ _ _) _ _ _)); lk)
  exact hy
end
end PySem.W
end
section
set_option maxRecDepth 100000
set_option maxHeartbeats 4000000
/-! ints and bools decline an own object -/
namespace RL
open PySem PySem.Spec L2
open PyProof.Rows hiding St
variable [Lams]
section
variable {i : Int} {t : Tok} {b : Bool} {x : Addr} {c : Value} {d : Option Addr} {sl : Array (Option Value)}
theorem dI_or : Meets (Builtin.«int.__or__» ⟨[.int i t, .ref x], []⟩) (fun _ R s => s.heap.get? x = some ⟨c, d, .plain, sl⟩ ∧ R (.ok (.ret Value.notImplemented)) s) :=
  .of_wp fun prog w A R s h => by obtain ⟨hp, g, dr, tk, os⟩ := s; obtain ⟨hl, h⟩ := h; wp_walk using wpAny_loadPart' hl; exact ⟨_, rfl, h⟩
theorem dI_and : Meets (Builtin.«int.__and__» ⟨[.int i t, .ref x], []⟩) (fun _ R s => s.heap.get? x = some ⟨c, d, .plain, sl⟩ ∧ R (.ok (.ret Value.notImplemented)) s) :=
  .of_wp fun prog w A R s h => by obtain ⟨hp, g, dr, tk, os⟩ := s; obtain ⟨hl, h⟩ := h; wp_walk using wpAny_loadPart' hl; exact ⟨_, rfl, h⟩
theorem dI_sub : Meets (Builtin.«int.__sub__» ⟨[.int i t, .ref x], []⟩) (fun _ R s => s.heap.get? x = some ⟨c, d, .plain, sl⟩ ∧ R (.ok (.ret Value.notImplemented)) s) :=
  .of_wp fun prog w A R s h => by obtain ⟨hp, g, dr, tk, os⟩ := s; obtain ⟨hl, h⟩ := h; wp_walk using wpAny_loadPart' hl; exact ⟨_, rfl, h⟩
theorem dB_or : Meets (Builtin.«bool.__or__» ⟨[.bool b, .ref x], []⟩) (fun _ R s => s.heap.get? x = some ⟨c, d, .plain, sl⟩ ∧ R (.ok (.ret Value.notImplemented)) s) :=
  .of_wp fun prog w A R s h => by obtain ⟨hp, g, dr, tk, os⟩ := s; obtain ⟨hl, h⟩ := h; wp_walk using wpAny_loadPart' hl; exact ⟨_, rfl, h⟩
theorem dB_and : Meets (Builtin.«bool.__and__» ⟨[.bool b, .ref x], []⟩) (fun _ R s => s.heap.get? x = some ⟨c, d, .plain, sl⟩ ∧ R (.ok (.ret Value.notImplemented)) s) :=
  .of_wp fun prog w A R s h => by obtain ⟨hp, g, dr, tk, os⟩ := s; obtain ⟨hl, h⟩ := h; wp_walk using wpAny_loadPart' hl; exact ⟨_, rfl, h⟩
theorem dB_sub : Meets (Builtin.«int.__sub__» ⟨[.bool b, .ref x], []⟩) (fun _ R s => s.heap.get? x = some ⟨c, d, .plain, sl⟩ ∧ R (.ok (.ret Value.notImplemented)) s) :=
  .of_wp fun prog w A R s h => by obtain ⟨hp, g, dr, tk, os⟩ := s; obtain ⟨hl, h⟩ := h; wp_walk using wpAny_loadPart' hl; exact ⟨_, rfl, h⟩
end
/-- ints and bools decline this operator -/
structure OpDec (op : Operator) : Prop where
  int : ∃ id, Slot "int" (PySem.dunder op.info.2) id ∧ fillsNumberSlot (.type "int") op.info.2 = pure true ∧ ∀ (prog : Program) (w : World) (A : Around) (E : Value → Shared → Prop) (s : Shared) (i : Int) (t : Tok) (x : Addr) (c : Value) (d : Option Addr) (sl : Array (Option Value)),
    s.heap.get? x = some ⟨c, d, .plain, sl⟩ → wpAny (model prog w) A (call (.builtin id) [.int i t, .ref x]) (fun v s' => v = .notImplemented ∧ s' = s) E s
  bool : ∃ id, Slot "bool" (PySem.dunder op.info.2) id ∧ fillsNumberSlot (.type "bool") op.info.2 = pure true ∧ ∀ (prog : Program) (w : World) (A : Around) (E : Value → Shared → Prop) (s : Shared) (b : Bool) (x : Addr) (c : Value) (d : Option Addr) (sl : Array (Option Value)),
    s.heap.get? x = some ⟨c, d, .plain, sl⟩ → wpAny (model prog w) A (call (.builtin id) [.bool b, .ref x]) (fun v s' => v = .notImplemented ∧ s' = s) E s
theorem dec_or : OpDec .BitOr := ⟨⟨_, PySem.F.slot_int_or, PySem.F.fills_int_or, fun prog w A E s i t x c d sl h => call_meets PySem.F.slot_int_or (typeIs_int s i t) PySem.F.entry_int_or (PySem.F.args_int_or_2 _ _) dI_or ⟨h, rfl, rfl⟩⟩,
  ⟨_, PySem.F.slot_bool_or, PySem.F.fills_bool_or, fun prog w A E s b x c d sl h => call_meets PySem.F.slot_bool_or (PySem.typeIs_bool s b) PySem.F.entry_bool_or (PySem.F.args_bool_or_2 _ _) dB_or ⟨h, rfl, rfl⟩⟩⟩
theorem dec_and : OpDec .BitAnd := ⟨⟨_, PySem.F.slot_int_and, PySem.F.fills_int_and, fun prog w A E s i t x c d sl h => call_meets PySem.F.slot_int_and (typeIs_int s i t) PySem.F.entry_int_and (PySem.F.args_int_and_2 _ _) dI_and ⟨h, rfl, rfl⟩⟩,
  ⟨_, PySem.F.slot_bool_and, PySem.F.fills_bool_and, fun prog w A E s b x c d sl h => call_meets PySem.F.slot_bool_and (PySem.typeIs_bool s b) PySem.F.entry_bool_and (PySem.F.args_bool_and_2 _ _) dB_and ⟨h, rfl, rfl⟩⟩⟩
theorem dec_sub : OpDec .Sub := ⟨⟨_, PySem.F.slot_int_sub, PySem.F.fills_int_sub, fun prog w A E s i t x c d sl h => call_meets PySem.F.slot_int_sub (typeIs_int s i t) PySem.F.entry_int_sub (PySem.F.args_int_sub_2 _ _) dI_sub ⟨h, rfl, rfl⟩⟩,
  ⟨_, PySem.F.slot_bool_sub, PySem.F.fills_bool_sub, fun prog w A E s b x c d sl h => call_meets PySem.F.slot_bool_sub (PySem.typeIs_bool s b) PySem.F.entry_int_sub (PySem.F.args_int_sub_2 _ _) dB_sub ⟨h, rfl, rfl⟩⟩⟩
/-! ### the rule -/
/-- a simple value's type -/
noncomputable def sTy : W → Option String
  | .non => some "NoneType"
  | .bl _ => some "bool"
  | .int _ => some "int"
  | .str _ => some "str"
  | .tup _ => some "tuple"
  | .lst _ => some "list"
  | _ => none
noncomputable def tysA : List String := ["NoneType", "bool", "int", "str", "tuple", "list"]
noncomputable def tysN : List String := ["NoneType", "str", "tuple", "list"]
structure OwnOpA (K : PySem.W.Frag) (C : Addr) (op : Operator) (f r : Addr) : Prop extends OwnOp K C op f r where
  fwT : ∀ T ∈ tysA, ∃ fo ro, PySem.W.findIn K (.type T) (PySem.dunder op.info.2) = some fo ∧ PySem.W.findIn K (.type T) (dunderR op.info.2) = some ro ∧ PySem.W.subIn K (.type T) (.ref C) = some false
  noT : ∀ T ∈ tysN, PySem.W.findIn K (.type T) (PySem.dunder op.info.2) = some none ∧ PySem.W.findIn K (.type T) (dunderR op.info.2) = some none
  outI : PySem.W.subIn K (.ref C) (.type "int") = some false
  outB : PySem.W.subIn K (.ref C) (.type "bool") = some false
noncomputable def gOwnA (c : Str) (base : W → W → Store → Res W) (g gr : Fn) (w1 w2 : W) (S : Store) : Res W :=
  if isIns c w1 = true then (if (isIns c w2 || (sTy w2).isSome) = true then g [w1, w2] S else .bad) else if isIns c w2 = true then (if (sTy w1).isSome = true then gr [w2, w1] S else .bad) else base w1 w2 S
section
variable {X : Cx} {E : EK} {c m1 m2 q1 q2 : Str} {k k' : Nat} {st1 st2 : Stmt} {ps1 ps2 : List Str} {g gr : Fn} {base : W → W → Store → Res W}
/-- the type of a simple value, as the machine looks at it -/
theorem sTy_looks {pins : List (Addr × Obj)} {σ : L2.St} {H : Hp} {s : Shared} {ρ : RT} {w : W} {x : V} {v : Value} {T : String} (I : Inv X pins σ H s) (r : RW X.K X.mg ρ H w x) (rv : RelV x v) (h : sTy w = some T) : PySem.W.Looks (model X.prog X.w) s.heap (typeOf v) (.type T) := by
  have ofRef : ∀ {a : Addr} {o : Obj}, s.heap.get? a = some o → o.cls = .type T → PySem.W.Looks (model X.prog X.w) s.heap (typeOf (.ref a)) (.type T) := fun ha hc A Q E s' kk q => wpAny_typeOf_ref (kk _ _ ha) (by rw [hc]; exact q)
  cases w with
  | non => cases h; cases r; cases rv; exact PySem.W.Looks.of_pure rfl
  | bl b => cases h; cases r; cases rv; exact PySem.W.Looks.of_pure rfl
  | int b => cases h; cases r; obtain ⟨t, rfl⟩ := rv; exact PySem.W.Looks.of_pure rfl
  | str b => cases h; cases r; obtain ⟨t, rfl⟩ := rv; exact PySem.W.Looks.of_pure rfl
  | tup ws =>
    cases h
    cases r with
    | tup hf hr =>
      cases rv
      obtain ⟨its, _, ⟨o, ho, hc, _⟩, _⟩ := I.tuple (sqT_of hf)
      exact ofRef ho hc
  | lst ws =>
    cases h
    cases r with
    | lst hf hr =>
      cases rv
      obtain ⟨its, _, pl, _⟩ := I.list (.inl (.inl hf.1))
      obtain ⟨o, ho, hc, _⟩ := pl.isList
      exact ofRef ho hc
  | _ => cases h
theorem sTy_mem {w : W} {T : String} (h : sTy w = some T) : T ∈ tysA := by
  cases w <;> first | (cases h; done) | (cases h; decide)
theorem om_ownA {op : Operator} (hop : ∀ f r C, X.mg c = some (.ref C) → Meth X.K C m1 f → Meth X.K C m2 r → OwnOpA X.K C op f r) (D : OpDec op) (F1 : MeE X.prog X.w X.K X.mg X.base k c m1 q1 st1 ps1 g) (F2 : MeE X.prog X.w X.K X.mg X.base k c m2 q2 st2 ps2 gr)
    (hr : Room k' X.A) (hk : k ≤ k') (tk : Takes X (fun c d _ H => E c d H)) (hn1 : ps1.length = 2) (hn2 : ps2.length = 2) (hb : OpM X E (binaryOp op) base) : OpM X E (binaryOp op) (gOwnA c base g gr) := by
  intro pins s σ H x y v u Q I rx ry ⟨ρ, S, w1, w2, rep, r1, r2, o⟩
  obtain ⟨C, f, fd, a1, a2, a3, a4, a5, a6⟩ := F1
  obtain ⟨C', f', fd', b1, b2, b3, b4, b5, b6⟩ := F2
  rw [a1] at b1; cases b1
  have O := hop f f' C a1 a3 b3
  rw [hn1] at a6
  rw [hn2] at b6
  unfold gOwnA at o
  obtain ⟨m, hF⟩ := I.fr
  split at o
  · rename_i h1
    obtain ⟨a, dx, fs, rfl, ha⟩ := ins_of a1 r1 h1
    obtain ⟨ox, od, J, _⟩ := inst_of I ha
    obtain rfl : v = Value.ref a := rx
    split at o
    · rename_i h2
      have call : wpAny (model X.prog X.w) X.A (call (.ref f) [.ref a, u]) (PySem.W.CmpBack (EP X pins σ Q)) X.xe s :=
        thn (run_fn (us := [.ref a, u]) (vs := [.ref a, y]) a6 (hr.mono hk) a5 .nil (passM tk) I (.cons rfl (.cons ry .nil)) ⟨ρ, S, [w1, w2], rep, .cons r1 (.cons r2 .nil), rfl, o⟩) fun v s' h => cmpBack h
      rw [Bool.or_eq_true] at h2
      rcases h2 with h2 | h2
      · obtain ⟨a', dx', fs', rfl, ha'⟩ := ins_of a1 r2 h2
        obtain ⟨ox', od', J', _⟩ := inst_of I ha'
        obtain rfl : u = Value.ref a' := ry
        exact PySem.W.binop_K hF I.ok.mod.kin J J'.type O.first O.fw O.fn call
      · obtain ⟨T, hT⟩ := Option.isSome_iff_exists.mp h2
        obtain ⟨fo, ro, e1, e2, e3⟩ := O.fwT T (sTy_mem hT)
        exact PySem.W.oa_fwd hF I.ok.mod.kin J (sTy_looks I r2 ry hT) O.first O.fw O.fn O.rw (.inr ⟨_, rfl⟩) e1 e2 e3 call
    · exact o.elim
  · split at o
    · rename_i h2
      split at o
      · rename_i h3
        obtain ⟨a, dx, fs, rfl, ha⟩ := ins_of a1 r2 h2
        obtain ⟨ox, od, J, hpl⟩ := inst_of I ha
        obtain rfl : u = Value.ref a := ry
        have call : wpAny (model X.prog X.w) X.A (call (.ref f') [.ref a, v]) (PySem.W.CmpBack (EP X pins σ Q)) X.xe s :=
          thn (run_fn (us := [.ref a, v]) (vs := [.ref a, x]) b6 (hr.mono hk) b5 .nil (passM tk) I (.cons rfl (.cons rx .nil)) ⟨ρ, S, [w2, w1], rep, .cons r2 (.cons r1 .nil), rfl, o⟩) fun v s' h => cmpBack h
        obtain ⟨T, hT⟩ := Option.isSome_iff_exists.mp h3
        have tl := sTy_looks I r1 rx hT
        have gone : ∀ T ∈ tysN, PySem.W.Looks (model X.prog X.w) s.heap (typeOf v) (.type T) → wpAny (model X.prog X.w) X.A (binaryOp op v (.ref a)) (EP X pins σ Q) X.xe s := fun T m tl => PySem.W.oa_rev hF I.ok.mod.kin J tl O.first O.fw O.rw O.rn (O.noT T m).1 (O.noT T m).2 call
        obtain ⟨oc, odd, odt, osl⟩ := ox
        have hpl : odt = .plain := hpl
        subst hpl
        cases w1 with
        | non => cases hT; exact gone _ (by decide) tl
        | str z => cases hT; exact gone _ (by decide) tl
        | tup ws => cases hT; exact gone _ (by decide) tl
        | lst ws => cases hT; exact gone _ (by decide) tl
        | int i =>
          cases hT
          cases r1
          obtain ⟨t, rfl⟩ := rx
          obtain ⟨id, d1, d2, d3⟩ := D.int
          exact PySem.W.oa_dec hF I.ok.mod.kin J (fun s' => typeIs_int s' i t) tl O.first O.fw O.rw O.rn d2 O.outI d1 (d3 _ _ _ _ _ _ _ _ _ _ _ J.at_) call
        | bl b =>
          cases hT
          cases r1
          cases rx
          obtain ⟨id, d1, d2, d3⟩ := D.bool
          exact PySem.W.oa_dec hF I.ok.mod.kin J (fun s' => PySem.typeIs_bool s' b) tl O.first O.fw O.rw O.rn d2 O.outB d1 (d3 _ _ _ _ _ _ _ _ _ _ J.at_) call
        | _ => cases hT
      · exact o.elim
    · exact hb pins s σ H x y v u Q I rx ry ⟨ρ, S, w1, w2, rep, r1, r2, o⟩
end
section
variable {K : PySem.W.Frag} {h : Heap} {mg : Str → Option Value} {c : Str}
theorem ownOpA_mk {op : Operator} {C0 : Addr} {m1 m2 : Str} {n1 n2 b1 b2 i1 i2 s1 s2 t1 t2 l1 l2 : Option Value} (X : K.In h) (G : h.Ns mainGlobals mg) (a : PySem.W.nsIn K mainGlobals c = some (some (.ref C0))) (first : PySem.W.selfFirst K C0 = true) (e1 : PySem.dunder op.info.2 = m1) (e2 : dunderR op.info.2 = m2)
    (fN : PySem.W.findIn K (.type "NoneType") m1 = some n1) (rN : PySem.W.findIn K (.type "NoneType") m2 = some n2) (fB : PySem.W.findIn K (.type "bool") m1 = some b1) (rB : PySem.W.findIn K (.type "bool") m2 = some b2) (fI : PySem.W.findIn K (.type "int") m1 = some i1) (rI : PySem.W.findIn K (.type "int") m2 = some i2)
    (fS : PySem.W.findIn K (.type "str") m1 = some s1) (rS : PySem.W.findIn K (.type "str") m2 = some s2) (fT : PySem.W.findIn K (.type "tuple") m1 = some t1) (rT : PySem.W.findIn K (.type "tuple") m2 = some t2) (fL : PySem.W.findIn K (.type "list") m1 = some l1) (rL : PySem.W.findIn K (.type "list") m2 = some l2)
    (z : (n1, n2, s1, s2, t1, t2, l1, l2) = (none, none, none, none, none, none, none, none))
    (sN : PySem.W.subIn K (.type "NoneType") (.ref C0) = some false) (sB : PySem.W.subIn K (.type "bool") (.ref C0) = some false) (sI : PySem.W.subIn K (.type "int") (.ref C0) = some false) (sS : PySem.W.subIn K (.type "str") (.ref C0) = some false) (sT : PySem.W.subIn K (.type "tuple") (.ref C0) = some false) (sL : PySem.W.subIn K (.type "list") (.ref C0) = some false)
    (oI : PySem.W.subIn K (.ref C0) (.type "int") = some false) (oB : PySem.W.subIn K (.ref C0) (.type "bool") = some false) :
    ∀ f r C, mg c = some (.ref C) → Meth K C m1 f → Meth K C m2 r → OwnOpA K C op f r := fun f r C hC M1 M2 => by
  have h0 := PySem.W.mg_of X G a
  rw [hC] at h0; cases h0
  simp only [Prod.mk.injEq] at z
  obtain ⟨rfl, rfl, rfl, rfl, rfl, rfl, rfl, rfl⟩ := z
  subst e1 e2
  refine ⟨⟨first, M1.at_, M1.fn, M2.at_, M2.fn, fS, rS, sS⟩, fun T m => ?_, fun T m => ?_, oI, oB⟩
  · simp only [tysA, List.mem_cons, List.not_mem_nil, or_false] at m
    rcases m with rfl | rfl | rfl | rfl | rfl | rfl
    · exact ⟨_, _, fN, rN, sN⟩
    · exact ⟨_, _, fB, rB, sB⟩
    · exact ⟨_, _, fI, rI, sI⟩
    · exact ⟨_, _, fS, rS, sS⟩
    · exact ⟨_, _, fT, rT, sT⟩
    · exact ⟨_, _, fL, rL, sL⟩
  · simp only [tysN, List.mem_cons, List.not_mem_nil, or_false] at m
    rcases m with rfl | rfl | rfl | rfl
    · exact ⟨fN, rN⟩
    · exact ⟨fS, rS⟩
    · exact ⟨fT, rT⟩
    · exact ⟨fL, rL⟩
end
end RL
end
section
set_option maxRecDepth 100000
set_option maxHeartbeats 4000000
/-! calls with ** of a dict -/
namespace RL
open PySem PySem.Spec L2
open PyProof.Rows hiding St
variable [Lams]
section
variable {prog : Program} {w : World} {A : Around} {E : Value → Shared → Prop} {D a : Addr}
/-- entries with text keys, no key twice -/
structure KwEs (prog : Program) (w : World) (es : Array DictEntry) : Prop where
  of : KeysOf (mixKind prog w) es
  str : ∀ e ∈ es, ∃ x t, e.key = .str x t
  nd : ∀ (i j : Nat) (hi : i < es.size) (hj : j < es.size), i < j → ∀ k : Key, (mixKind prog w).is k es[j].key = true → (mixKind prog w).is k es[i].key = false
theorem dof_data (l : List DictEntry) (n : Nat) : (PySem.W.dictOf l n).data = .dict l.toArray n := rfl
/-- a key that is not there yet is not found -/
theorem kw_none {s : Shared} {es : Array DictEntry} {i n : Nat} {Q : Option Nat → Shared → Prop} (K : KwEs prog w es) (hi : i < es.size) (hD : s.heap.get? D = some (PySem.W.dictOf (es.toList.take i) n)) (h : Q none s) : wpAny (model prog w) A (dictFind D es[i].key es[i].hash) Q E s := by
  obtain ⟨k, hk, hh⟩ := K.of es[i] (Array.getElem_mem hi)
  rw [hh]
  refine wpAny_dictFind_of (knd := mixKind prog w) hk hD (dof_data _ _) (fun e m => ?_) ?_
  · have m' : e ∈ es.toList.take i := List.mem_toArray.mp m
    exact K.of e (Array.mem_toList_iff.mp (List.mem_of_mem_take m'))
  · have : ((es.toList.take i).toArray.findIdx? fun e => (mixKind prog w).is k e.key) = none := by
      rw [Array.findIdx?_eq_none_iff]
      intro e m
      have m' : e ∈ es.toList.take i := List.mem_toArray.mp m
      obtain ⟨j, hj, rfl⟩ := List.mem_iff_getElem.mp m'
      rw [List.length_take] at hj
      rw [List.getElem_take]
      have hj1 : j < i := by omega
      exact K.nd j i (by omega) hi hj1 k hk
    rw [this]
    exact h
theorem up_other {h : Heap} {f : Obj → Obj} {b : Addr} (n : b ≠ D) : (h.update D f).get? b = h.get? b := Heap.get?_update_other _ _ (Ne.symm n)
theorem merge_kw {s : Shared} {oa : Obj} {es : Array DictEntry} {ep : Nat} {Q : Unit → Shared → Prop} {n0 : Nat} (hD : s.heap.get? D = some (PySem.W.dictOf [] n0)) (ha : s.heap.get? a = some oa) (hx : oa.ExactDict) (hda : oa.data = .dict es ep) (hne : D ≠ a) (hsys : (a == sysModules) = false)
    (K : KwEs prog w es) (hz : es.size ≤ sizeLine) (h : ∀ h2, (∀ b, b ≠ D → h2.get? b = s.heap.get? b) → h2.get? D = some (PySem.W.dictOf es.toList (n0 + es.size)) → Q () { s with heap := h2 }) : wpAny (model prog w) A (mergeMapping D (.ref a) true) Q E s := by
  have hT : s.TypeIs (.ref a) "dict" := ⟨oa, ha, hx.1⟩
  unfold mergeMapping
  refine wpAny_bind (wpAny_isInstance hT isSubtype_dict_dict ?_)
  rw [if_pos rfl]
  refine wpAny_bind (wpAny_specialOf hT PySem.F.slot_dict_iter.lookup ?_)
  refine wpAny_bind (wpAny_pure ?_)
  rw [beq_self_eq_true]
  dsimp only
  rw [hsys, if_neg Bool.false_ne_true]
  refine wpAny_bind (wpAny_dictEntries hD (dof_data _ _) ?_)
  rw [if_pos (by rfl)]
  refine wpAny_bind (wpAny_dictEntries ha hda ?_)
  have nok : ∀ {T : Unit → Shared → Prop} {f : DictEntry → PUnit → Sem (ForInStep PUnit)}, (∀ e u, (∃ x t, e.key = Value.str x t) → f e u = pure (ForInStep.yield PUnit.unit)) → T () s → wpAny (model prog w) A (forIn es PUnit.unit f) T E s := fun hf q =>
    PySem.MeetsSeq2.wpAny_forIn_array _ (fun rest _ s' => s' = s ∧ ∀ e ∈ rest, e ∈ es) _ (by
      rintro e rest b s' ⟨rfl, hm⟩
      rw [hf e b (K.str e (hm e List.mem_cons_self))]
      exact wpAny_pure ⟨rfl, fun e' m => hm e' (List.mem_cons_of_mem _ m)⟩) (by
      rintro b s' ⟨rfl, _⟩
      exact q) _ _ ⟨rfl, fun e m => Array.mem_toList_iff.mp m⟩
  refine wpAny_bind (nok (fun e u ⟨x, t, he⟩ => by simp only [he]) ?_)
  refine wpAny_bind (wpAny_dictEntries ha hda ?_)
  refine wpAny_bind (wpAny_dictEpoch ha hda ?_)
  refine wpAny_bind (wpAny_forIn_list _ (fun rest _ s' => ∃ h' i, s' = { s with heap := h' } ∧ rest = List.range' i (es.size - i) ∧ i ≤ es.size ∧ h'.get? D = some (PySem.W.dictOf (es.toList.take i) (n0 + i)) ∧ ∀ b, b ≠ D → h'.get? b = s.heap.get? b) _ ?_ ?_ _ _
    ⟨s.heap, 0, rfl, by rw [List.range_eq_range', Nat.sub_zero], Nat.zero_le _, hD, fun _ _ => rfl⟩)
  · rintro x rest b s' ⟨h', i, rfl, hr, hi, hD', ho'⟩
    have hlt : i < es.size := by
      rcases Nat.lt_or_ge i es.size with q | q
      · exact q
      · rw [Nat.sub_eq_zero_of_le q] at hr; cases hr
    have e0 : es.size - i = (es.size - (i + 1)) + 1 := by omega
    rw [e0, List.range'_succ] at hr
    injection hr with hr1 hr2
    subst hr1
    have ha' : h'.get? a = some oa := (ho' a (Ne.symm hne)).trans ha
    refine wpAny_bind (wpAny_dictEntries (s := { s with heap := h' }) ha' hda ?_)
    rw [Array.getElem?_eq_getElem hlt]
    dsimp only
    rw [if_pos rfl]
    refine wpAny_bind (wpAny_holding (wpAny_bind (kw_none (s := { s with heap := h' }) K hlt hD' ?_)))
    rw [if_neg (by decide)]
    unfold dictPut
    refine wpAny_bind (kw_none (s := { s with heap := h' }) K hlt hD' ?_)
    dsimp only
    have tl : (es.toList.take x).length = x := by rw [List.length_take, Array.length_toList]; omega
    refine wpAny_updateDictKeys (s := { s with heap := h' }) hD' (dof_data _ _) ?_ (by rw [List.size_toArray, tl]; omega) (by rw [Array.size_push]; exact Nat.le_refl _)
    have ha2 : ∀ f, (h'.update D f).get? a = some oa := fun f => (up_other (Ne.symm hne)).trans ha'
    refine wpAny_bind (wpAny_dictEpoch (s := { s with heap := h'.update D (Obj.mapDictKeys _) }) (ha2 _) hda ?_)
    rw [if_neg (by rw [bne_self_eq_false]; exact Bool.false_ne_true)]
    refine wpAny_pure ⟨_, x + 1, rfl, hr2, hlt, ?_, fun b n => (up_other n).trans (ho' b n)⟩
    rw [Heap.get?_update_self _ hD' rfl]
    have : es.toList.take (x + 1) = es.toList.take x ++ [es[x]] := by
      rw [List.take_add_one]
      rw [Array.getElem?_toList, Array.getElem?_eq_getElem hlt]
      rfl
    rw [this]
    show some ({ cls := _, data := .dict ((es.toList.take x).toArray.push es[x]) (n0 + x + 1) } : Obj) = some ({ cls := _, data := .dict (es.toList.take x ++ [es[x]]).toArray (n0 + (x + 1)) } : Obj)
    rw [List.push_toArray]
    rfl
  · rintro b s' ⟨h', i, rfl, hr, hi, hD', ho'⟩
    have hin : i = es.size := by
      rcases Nat.lt_or_ge i es.size with q | q
      · have e0 : es.size - i = (es.size - (i + 1)) + 1 := by omega
        rw [e0, List.range'_succ] at hr; cases hr
      · exact Nat.le_antisymm hi q
    subst hin
    refine wpAny_pure (h h' ho' ?_)
    rw [hD', List.take_of_length_le (by rw [Array.length_toList]; exact Nat.le_refl _)]
/-- a text key with its value -/
noncomputable def kwOf (e : DictEntry) : Str × Value := match e.key with
  | .str x _ => (x, e.val)
  | _ => ("", e.val)
theorem kw_in {s : Shared} {f : Value} {es : List DictEntry} {n : Nat} {Q : List (Str × Value) → Shared → Prop} (hD : s.heap.get? D = some (PySem.W.dictOf es n)) (hs : ∀ e ∈ es, ∃ x t, e.key = .str x t) (h : Q (es.map kwOf) s) : wpAny (model prog w) A (keywordsIn f D) Q E s := by
  unfold keywordsIn
  refine wpAny_bind (wpAny_dictEntries hD (dof_data _ _) ?_)
  refine wpAny_bind (PySem.MeetsSeq2.wpAny_forIn_array _ (fun rest b s' => s' = s ∧ ∃ done, es = done ++ rest ∧ b = done.map kwOf) _ ?_ ?_ _ _ ⟨rfl, [], rfl, rfl⟩)
  · rintro e rest b s' ⟨rfl, done, he, rfl⟩
    obtain ⟨x, t, hk⟩ := hs e (by rw [he]; exact List.mem_append_right _ List.mem_cons_self)
    simp only [hk]
    refine wpAny_pure ⟨rfl, done ++ [e], by rw [he, List.append_assoc]; rfl, ?_⟩
    rw [List.map_append]
    show _ = _ ++ [kwOf e]
    unfold kwOf
    simp only [hk]
  · rintro b s' ⟨rfl, done, he, rfl⟩
    rw [List.append_nil] at he
    subst he
    exact wpAny_pure h
/-- one ** and nothing else -/
theorem args_dd {s : Shared} {f : Value} {x : Sem Value} {Q : Args → Shared → Prop}
    (h : wpAny (model prog w) A x (fun v s1 => ∃ a oa es ep n, v = Value.ref a ∧ s1.heap.get? s.heap.objs.size = some (PySem.W.dictOf [] n) ∧ s1.heap.get? a = some oa ∧ oa.ExactDict ∧ oa.data = .dict es ep ∧ s.heap.objs.size ≠ a ∧ (a == sysModules) = false ∧ KwEs prog w es ∧ es.size ≤ sizeLine ∧
      ∀ h2, (∀ b, b ≠ s.heap.objs.size → h2.get? b = s1.heap.get? b) → h2.get? s.heap.objs.size = some (PySem.W.dictOf es.toList (n + es.size)) → Q ⟨[], es.toList.map kwOf⟩ { s1 with heap := h2 }) E { s with heap := s.heap.push { cls := .type "dict", data := .dict #[] } }) :
    wpAny (model prog w) A (evalArgs f true [] [(none, x)]) Q E s := by
  unfold evalArgs
  refine wpAny_bind (wpAny_bind (wpAny_pure (wpAny_pure ?_)))
  refine wpAny_bind (wpAny_pure ?_)
  dsimp only
  refine wpAny_holding ?_
  rw [if_neg (by simp)]
  unfold mergedKeywords
  refine wpAny_bind (wpAny_bind (wpAny_alloc (wpAny_bind (wpAny_holding ?_))))
  dsimp only
  rw [List.forIn_cons]
  dsimp only
  rw [if_pos (show (List.isEmpty ([] : List (Str × Sem Value))) = true from rfl)]
  refine wpAny_bind (wpAny_bind (wpAny_bind (wpAny_pure (wpAny_bind (wpAny_mono h (fun v s1 hv => ?_) fun _ _ z => z)))))
  obtain ⟨a, oa, es, ep, n, rfl, hD, ha, hx, hda, hne, hsys, K, hz, k⟩ := hv
  refine wpAny_bind (wpAny_onRaise (wpAny_holding (wpAny_tryCatch (wpAny_onRaise (merge_kw hD ha hx hda hne hsys K hz fun h2 k1 k2 => ?_)))))
  refine wpAny_pure ?_
  dsimp only
  rw [List.forIn_nil]
  refine wpAny_pure ?_
  rw [if_pos (show (List.isEmpty ([] : List (Str × Sem Value))) = true from rfl)]
  refine wpAny_pure (wpAny_pure ?_)
  refine wpAny_bind (wpAny_pure ?_)
  refine wpAny_bind (wpAny_holding (kw_in (s := { s1 with heap := h2 }) k2 (fun e m => K.str e (Array.mem_toList_iff.mp m)) ?_))
  exact wpAny_pure (k h2 k1 k2)
theorem forIn_acc {α β γ : Type} (f : α → β → Sem (ForInStep β)) (mk : List α → β) : ∀ (l : List α) (acc : List α), (∀ x ∈ l, ∀ acc, f x (mk acc) = pure (.yield (mk (acc ++ [x])))) → forIn l (mk acc) f = (pure (mk (acc ++ l)) : Sem β)
  | [], acc, _ => by rw [List.forIn_nil, List.append_nil]
  | x :: r, acc, h => by
    rw [List.forIn_cons, h x List.mem_cons_self acc, pure_bind]
    show forIn r (mk (acc ++ [x])) f = _
    rw [forIn_acc (γ := γ) f mk r _ fun y m => h y (List.mem_cons_of_mem _ m), List.append_assoc]
    rfl
theorem binds_dd {fd : FuncData} {slf : Str} {a : Arg} {u : Value} {kw : List (Str × Value)} (h1 : fd.params.posonlyargs = []) (h2 : fd.params.args.map (·.arg) = [slf]) (h3 : fd.params.kwonlyargs = []) (h4 : fd.params.vararg = none) (h5 : fd.params.kwarg = some a) (h6 : fd.defaults = .none)
    (hn : ∀ x ∈ kw, x.1 ≠ slf) (hz : kw.length ≤ sizeLine) :
    bindArgs fd ⟨[u], kw⟩ = ((alloc { cls := .type "dict", data := .dict #[] } : Sem Addr) >>= fun d => (forIn kw PUnit.unit fun x _ => (nsSet d x.1 x.2 >>= fun _ => pure (ForInStep.yield PUnit.unit))) >>= fun _ => pure [(slf, u), (a.arg, Value.ref d)]) := by
  unfold bindArgs
  simp only [h1, h2, h3, h4, h5, h6, List.map_nil, List.nil_append]
  rw [show ([slf].zip [u], ([] : List (Str × Value))) = (fun acc : List (Str × Value) => ([(slf, u)], acc)) [] from rfl]
  rw [forIn_acc (γ := Unit) _ (fun acc : List (Str × Value) => ([(slf, u)], acc)) kw [] (fun x m acc => by
    have c : ([slf].contains x.1 || ([] : List Str).contains x.1) = false := by
      rw [Bool.or_eq_false_iff]
      refine ⟨?_, rfl⟩
      rw [List.contains_cons, Bool.or_eq_false_iff]
      exact ⟨beq_eq_false_iff_ne.mpr (hn x m), rfl⟩
    rw [if_neg (by rw [c]; exact Bool.false_ne_true), if_pos (show (some a).isSome = true from rfl)])]
  rw [pure_bind]
  dsimp only [List.nil_append]
  have nz : ¬ kw.length > sizeLine + 1 := by omega
  have l1 : List.lookup slf [(slf, u)] = some u := by simp [List.lookup]
  have q : (seqItems? Value.none : Sem (Option (Array Value))) = pure none := rfl
  simp only [q, pure_bind, Option.getD_none, List.length_cons, List.length_nil, List.drop_nil, List.take, List.filter_cons, l1, nz, List.zip_nil_right, List.forIn_nil, List.filter_nil, if_false, List.isEmpty_nil, Bool.not_true, Bool.false_eq_true, List.filterMap_cons, List.filterMap_nil, List.append_nil, Option.isNone_some, Option.map_some]
  rw [if_neg (show ¬ (decide (0 + 1 > 0 + 1) && (none : Option Arg).isNone) = true from by rw [show decide (0 + 1 > 0 + 1) = false from rfl]; exact Bool.false_ne_true)]
  rfl
end
end RL
end
section
set_option maxRecDepth 100000
set_option maxHeartbeats 4000000
/-! o.m(**d), d a local name -/
namespace RL
open PySem PySem.Spec L2
open PyProof.Rows hiding St
variable [Lams]
noncomputable def strsK : List Key → Option (List Str)
  | [] => some []
  | .inr x :: r => (strsK r).map (x :: ·)
  | .inl _ :: _ => none
theorem strsK_of : ∀ {ks : List Key} {xs : List Str}, strsK ks = some xs → ks = xs.map Sum.inr
  | [], xs, h => by cases h; rfl
  | .inr x :: r, xs, h => by
    unfold strsK at h
    cases e : strsK r with
    | none => rw [e] at h; cases h
    | some ys => rw [e] at h; cases h; rw [strsK_of e]; rfl
  | .inl _ :: _, _, h => by cases h
noncomputable def mMethDD (c m slf : Str) (g : Fn) (mo : SM W) (i : Nat) : SM W := fun s S => (mo s S).bind fun w S1 => match insAt S1 w with
  | some (c', ns, _) => if c' = c ∧ ns.contains m = false then (mVar i s S1).bind fun d S2 => (match d with
    | .dic ks ws => match strsK ks with
      | some xs => if xs.Nodup ∧ xs.contains slf = false ∧ xs.length ≤ 1000 ∧ ks.length = ws.length then g [w, dicT (kwsW xs ws)] S2 else .bad
      | none => .bad
    | _ => .bad) else .bad
  | none => .bad
section
variable {prog : Program} {w : World} {A : Around} {E : Value → Shared → Prop} {K : PySem.W.Frag}
theorem call_dd {s : Shared} {f : Value} {first : List Value} {pos : Pos} {x : Sem Value} {Q : Value → Shared → Prop} {P : Heap → Prop} (hk : ∀ h, P h → ∃ k, (k = Keeper.frame ∨ k = Keeper.machine ∨ k = Keeper.boundFrame) ∧ PySem.W.Looks (model prog w) h (keeperOf f) k)
    (h : wpAny (model prog w) A (evalArgs f true [] [(none, x)]) (fun a s1 => P s1.heap ∧ wpAny (model prog w) A (call f (first ++ a.pos) a.kw) Q E s1) E s) : wpAny (model prog w) A (callWith pos f first [] [(none, x)]) Q E s := by
  unfold callWith
  refine wpAny_bind (wpAny_holding (wpAny_mono h (fun a s1 h1 => wpAny_bind (wpAny_standAt ?_)) fun _ _ z => z))
  obtain ⟨kp, hkp, lk⟩ := hk _ h1.1
  have fin : ∀ {t : Sem Value}, wpAny (model prog w) A t Q E s1 → wpAny (model prog w) A (t >>= fun r => holding [r] point >>= fun _ => pure r) Q E s1 := fun ht =>
    wpAny_bind (wpAny_mono ht (fun r s2 hr => wpAny_bind (wpAny_holding (wpAny_point (wpAny_pure hr)))) fun _ _ z => z)
  have mk (v : Value) : wpAny (model prog w) A (callMarked v f (first ++ a.pos) a.kw) Q E s1 := by unfold callMarked; exact PySem.Calls.wpAny_keep h1.2
  have st : (([] : List (Bool × Sem Value)).any (·.1) || ([(none, x)] : List (Option Str × Sem Value)).any (·.1.isNone)) = true := rfl
  rw [st]
  refine wpAny_bind (lk.here ?_)
  rcases hkp with rfl | rfl | rfl <;> dsimp only <;> first | exact fin (mk _) | exact fin (wpAny_operating h1.2)
theorem kws_of {es : List DictEntry} {vs : List (Key × Value)} (p : Pairs (mixKind prog w) es vs) : ∀ {xs : List Str}, vs.map (·.1) = xs.map Sum.inr → es.map kwOf = xs.zip (vs.map (·.2)) ∧ ∀ e ∈ es, ∃ x t, e.key = .str x t := by
  induction p with
  | nil =>
    intro xs h
    refine ⟨?_, fun _ m => nomatch m⟩
    cases xs with
    | nil => rfl
    | cons x r => cases h
  | @cons e kv es kvs h1 h2 t ih =>
    intro xs h
    cases xs with
    | nil => cases h
    | cons x r =>
      rw [List.map_cons, List.map_cons, List.cons.injEq] at h
      obtain ⟨a1, a2⟩ := ih h.2
      rw [h.1] at h1
      have hk : ∃ t, e.key = .str x t := by
        rcases keyIs_shape (show keyIs (Sum.inr x) e.key = true from h1) with ⟨i, t, q, _⟩ | ⟨y, t, q, e1⟩
        · cases q
        · cases q; exact ⟨t, e1⟩
      obtain ⟨t, hk⟩ := hk
      refine ⟨?_, fun e' m => ?_⟩
      · rw [List.map_cons, List.map_cons, List.zip_cons_cons, a1]
        have : kwOf e = (x, kv.2) := by unfold kwOf; rw [hk, h2]
        rw [this]
      · rcases List.mem_cons.mp m with rfl | m
        · exact ⟨x, t, hk⟩
        · exact a2 e' m
theorem pairs_at {es : List DictEntry} {vs : List (Key × Value)} (p : Pairs (mixKind prog w) es vs) : es.length = vs.length ∧ ∀ (i : Nat) (h1 : i < es.length) (h2 : i < vs.length), (mixKind prog w).is vs[i].1 es[i].key = true := by
  induction p with
  | nil => exact ⟨rfl, fun i h => absurd h (Nat.not_lt_zero _)⟩
  | cons h1 h2 t ih =>
    refine ⟨by rw [List.length_cons, List.length_cons, ih.1], fun i a b => ?_⟩
    cases i with
    | zero => exact h1
    | succ i => exact ih.2 i (Nat.lt_of_succ_lt_succ a) (Nat.lt_of_succ_lt_succ b)
theorem kwes_of {es : Array DictEntry} {vs : List (Key × Value)} {xs : List Str} (k : KeysOf (mixKind prog w) es) (p : Pairs (mixKind prog w) es.toList vs) (hn : (vs.map (·.1)).Nodup) (hx : vs.map (·.1) = xs.map Sum.inr) : KwEs prog w es := by
  obtain ⟨hl, at_⟩ := pairs_at p
  rw [Array.length_toList] at hl
  refine ⟨k, fun e m => (kws_of p hx).2 e (Array.mem_toList_iff.mpr m), fun i j hi hj hij q hq => ?_⟩
  have ai := at_ i (by rw [Array.length_toList]; exact hi) (by omega)
  have aj := at_ j (by rw [Array.length_toList]; exact hj) (by omega)
  rw [Array.getElem_toList] at ai aj
  have e1 := (mixKind prog w).inj _ _ _ hq aj
  cases c : (mixKind prog w).is q es[i].key with
  | false => rfl
  | true =>
    exfalso
    have e2 := (mixKind prog w).inj _ _ _ c ai
    have d := List.pairwise_iff_getElem.mp hn i j (by rw [List.length_map]; omega) (by rw [List.length_map]; omega) hij
    rw [List.getElem_map, List.getElem_map] at d
    exact d (e2.symm.trans e1)
end
section
variable {X : Cx} {E : EK} {pos apos : Pos} {o e : Expr} {kws : List Keyword} {mo : SM W} {c m q slf pd : Str} {k k' i : Nat} {st : Stmt} {g : Fn} {pl : Sem Bool}
theorem kv_split {ks : List Key} {xs : List Str} {vs : List V} {us : List (Key × Value)} (h : ks = xs.map Sum.inr) (hl : ks.length = vs.length) (r : KV (ks.zip vs) us) : us.map (·.1) = xs.map Sum.inr ∧ Vals vs (us.map (·.2)) := by
  subst h
  induction xs generalizing vs us with
  | nil =>
    cases vs with
    | nil => cases r; exact ⟨rfl, .nil⟩
    | cons v t => cases hl
  | cons x r' ih =>
    cases vs with
    | nil => cases hl
    | cons v t =>
      cases r with
      | cons h t' =>
        obtain ⟨a1, a2⟩ := ih (vs := t) (by simpa using hl) t'
        refine ⟨?_, .cons h.2 a2⟩
        rw [List.map_cons, List.map_cons, a1, ← h.1]
/-- a method as a value -/
noncomputable def BmT (K : PySem.W.Frag) (mg : Str → Option Value) (c m : Str) : Prop := ∃ C f, mg c = some (.ref C) ∧ BMeth K C m f
theorem starcall_dd {M : Model} {A : Around} {X' : Value → Shared → Prop} {s : Shared} {env : Env} {x : Sem Value} {Q : Value → Shared → Prop} (hbase : attributeBase o m env (eval o env) = eval o env) (hst : starEach [] env = []) (hkw : backToKw pos (keywordEach kws env) = [(none, x)])
    (h : wpAny M A (eval o env) (fun ov s1 => wpAny M A (getAttr ov m true) (fun f s2 => wpAny M A (callWith pos f [] [] [(none, x)]) Q X' s2) X' s1) X' s) : wpAny M A (eval (.Call (.Attribute o m apos) [] kws pos) env) Q X' s := by
  have hform : ∀ n, methodCallForm n (backTo pos (starEach [] env)) (backToKw pos (keywordEach kws env)) = false := fun n => by rw [hkw]; rfl
  have hpos : methodCallPos false o env apos pos = pure pos := rfl
  have hcal : ∀ ov, calleeOf false o env ov m = (getAttr ov m true >>= fun v => pure (v, [])) := fun _ => rfl
  rw [arm_eval_Call, hbase]
  refine wpAny_bind (wpAny_mono h (fun ov s1 h1 => ?_) fun _ _ z => z)
  refine wpAny_bind (wpAny_standAt ?_)
  unfold methodCall
  rw [hform, hpos, hcal]
  refine wpAny_bind (wpAny_holding (wpAny_bind (wpAny_mono h1 (fun f s2 h2 => wpAny_pure ?_) fun _ _ z => z)))
  refine wpAny_bind (wpAny_pure ?_)
  rw [hkw, hst]
  exact h2
theorem pm_methDD (F : KwE X.prog X.w X.K X.mg X.base k c m q st [slf] pd g) (B : BmT X.K X.mg c m) (hr : Room k' X.A) (hk : k ≤ k') (tk : Takes X (fun c d _ H => E c d H)) (ho : PM X E o mo) (hd : PE X e (tVar i))
    (a1 : (defArgs st).posonlyargs = [] := by rfl) (a2 : (defArgs st).args.map (·.arg) = [slf] := by rfl) (a3 : (defArgs st).kwonlyargs = [] := by rfl) (a4 : (defArgs st).vararg = none := by rfl) (a5 : (defArgs st).kwarg.map (·.arg) = some pd := by rfl)
    (hkw : backToKw pos (keywordEach kws X.env) = [(none, do let v ← eval e X.env; standAt pos; pure v)] := by rfl) (hst : starEach [] X.env = [] := by rfl) (hbase : attributeBase o m X.env (eval o X.env) = eval o X.env := by rfl) : PM X E (.Call (.Attribute o m apos) [] kws pos) (mMethDD c m slf g mo i) := by
  obtain ⟨C, f, h1, h2, h3, F⟩ := F
  obtain ⟨C0, f0, b1, b2⟩ := B
  rw [h1] at b1; cases b1
  obtain rfl : f0 = f := by
    have := b2.mt.at_.symm.trans h3.at_
    cases this; rfl
  refine ⟨fun pins s σ H Q I h => ?_⟩
  have step : tE X E mo σ H fun x H1 => ∃ a C' dx fs b ks xs vs od, x = .ref a ∧ C' = C ∧ H1 a = some (.ins C' dx fs) ∧ fs.lookup m = none ∧ σ[i]? = some (some (.ref b)) ∧ H1 b = some (.frz od (.dK (ks.zip vs))) ∧ ks = xs.map Sum.inr ∧ ks.length = vs.length ∧ xs.Nodup ∧ xs.contains slf = false ∧ xs.length ≤ 1000 ∧
      ∃ ρ S ys zs, RepS X.K X.mg ρ H1 S ∧ RWs X.K X.mg ρ H1 ys [.ref a] ∧ RWs X.K X.mg ρ H1 zs vs ∧ ys.length = 1 ∧ Out X.K X.mg (RW X.K X.mg) E ρ H1 (g (ys ++ [dicT (kwsW xs zs)]) S) Q :=
    tX.bind h fun ρ1 H1 w x s S1 rep env r out => by
      cases e1 : insAt S1 w with
      | none => rw [e1] at out; exact out.elim
      | some p =>
        obtain ⟨c', ns, ws0⟩ := p
        rw [e1] at out
        dsimp only at out
        split at out
        · rename_i hcc
          obtain ⟨hcc, hnm⟩ := hcc
          subst hcc
          obtain ⟨a, C', dx, vs0, rfl, hm, ha, hla, hra⟩ := insAt_of rep r e1
          rw [h1] at hm; cases hm
          unfold mVar at out
          cases e2 : s[i]? with
          | none => rw [e2] at out; exact out.elim
          | some od =>
            cases od with
            | none => rw [e2] at out; exact out.elim
            | some d =>
              rw [e2] at out
              obtain ⟨v, hv, rv⟩ := env.look i d e2
              cases d with
              | dic ks ws =>
                dsimp only [Res.bind] at out
                cases e3 : strsK ks with
                | none => rw [e3] at out; exact out.elim
                | some xs =>
                  rw [e3] at out
                  dsimp only at out
                  split at out
                  · rename_i hc
                    cases rv with
                    | dic hf hl rws =>
                      obtain ⟨od, hf⟩ := hf
                      exact ⟨a, _, dx, _, _, ks, xs, _, od, rfl, rfl, ha, lookup_not hnm, hv, hf.1, strsK_of e3, hl, hc.1, hc.2.1, hc.2.2.1, ρ1, S1, [w], ws, rep, .cons r .nil, rws, rfl, out⟩
                  · exact out.elim
              | _ => exact out.elim
        · exact out.elim
  refine starcall_dd hbase hst hkw (thn (ho.run pins s σ H _ I step) fun u s0 ⟨x, H0, I0, rx, a, C', dx, fs, b, ks, xs, vs, od, ex, eC, ea, l, hv, hb0, hks, hl, hnd, hns, hlen, ρ, S, ys, zs, rep0, ry0, rz0, hy, out0⟩ => ?_)
  subst ex eC
  obtain rfl : u = Value.ref a := rx
  refine getbound_ok I0 ea h2 b2 l fun qm s1 hq I1 => ?_
  refine call_dd (P := PySem.W.MethP X.K qm f0 (.ref a)) (PySem.W.keeps_M b2.fi) ?_
  obtain ⟨e0, rep⟩ := rep0.tree hq (.met f0 a)
  have ry := ry0.ext e0
  have rz := rz0.ext e0
  have out := Out.ext e0 out0
  have hb : upd H0 qm (.met f0 a) b = some (.frz od (.dK (ks.zip vs))) := by rw [upd_ne (fun z => by rw [z, hq] at hb0; cases hb0)]; exact hb0
  have hm0 : upd H0 qm (.met f0 a) qm = some (.met f0 a) := upd_same
  generalize upd H0 qm (.met f0 a) = H1 at I1 rep ry rz out hb hm0 ⊢
  have fresh : H1 s1.heap.objs.size = none := I1.hok.fresh (Nat.le_refl _)
  have I2 : Inv X pins σ (upd H1 s1.heap.objs.size (.dK [])) { s1 with heap := s1.heap.push { cls := .type "dict", data := .dict #[] } } := I1.laid (t' := s1.toks) (fun _ _ z => Heap.get?_push_of_some _ z) (Nat.le_refl _) (dk_empty s1.heap I1.big)
  have nb : b ≠ s1.heap.objs.size := fun z => by rw [z, fresh] at hb; cases hb
  refine args_dd (wpAny_bind (thn (hd.run pins _ σ _ (fun v H2 => v = .ref b ∧ H2 = upd H1 s1.heap.objs.size (.dK [])) I2 ⟨_, hv, rfl, rfl⟩) fun u s2 ⟨v, H2, I3, rv, e4, e5⟩ => wpAny_bind (wpAny_standAt (wpAny_pure ?_))))
  subst e4 e5
  obtain rfl : u = Value.ref b := rv
  obtain ⟨_, nD, us0, r0, oD, es0, ep0, hoD, exD, daD, kD, pD, _⟩ := dk_of I3.hok upd_same
  cases r0
  have z0 : es0.toList = [] := by
    cases hz : es0.toList with
    | nil => rfl
    | cons e r => rw [hz] at pD; cases pD
  have z1 : es0 = #[] := by rw [← Array.toArray_toList (xs := es0), z0]
  subst z1
  have eD : oD = PySem.W.dictOf [] ep0 := by
    obtain ⟨oc, od', odt, osl⟩ := oD
    obtain ⟨q1, q2, q3⟩ := exD
    cases q1; cases q2; cases q3; cases daD
    rfl
  subst eD
  obtain ⟨hzb, nb2, us, rel, ob, es, ep, hob, exb, dab, kb, pb, ndb⟩ := dk_rd I3.hok (show Rd (upd H1 s1.heap.objs.size (.dK [])) b (.dK (ks.zip vs)) from .inr ⟨od, by rw [upd_ne nb]; exact hb⟩)
  obtain ⟨uk, uv⟩ := kv_split hks hl rel
  have lus : us.length = xs.length := by have := congrArg List.length uk; rwa [List.length_map, List.length_map] at this
  have les : es.size = us.length := by have := (pairs_at pb).1; rwa [Array.length_toList] at this
  refine ⟨b, ob, es, ep, ep0, rfl, hoD, hob, exb, dab, fun z => nb z.symm, nb2, kwes_of kb pb ndb uk, by rw [les, lus]; exact Nat.le_trans hlen (by decide), fun h2 k1 k2 => ?_⟩
  have new : ObjOk X.prog X.w (upd (upd H1 s1.heap.objs.size (.dK [])) s1.heap.objs.size (.dK (ks.zip vs))) h2 s1.heap.objs.size (.dK (ks.zip vs)) := dk_new hzb nD rel ⟨_, es, _, k2, ⟨rfl, rfl, rfl⟩, by rw [dof_data], kb, pb, ndb⟩
  have I4 : Inv X pins σ (upd (upd H1 s1.heap.objs.size (.dK [])) s1.heap.objs.size (.dK (ks.zip vs))) { s2 with heap := h2 } := I3.write (t' := s2.toks) (by rw [upd_same]; exact True.intro) (.inl rfl) (fun c u n z => (k1 c n).trans z) ⟨_, k2⟩ new
  rw [(kws_of pb uk).1]
  rw [upd_upd] at I4
  obtain ⟨e6, rep6⟩ := rep.tree fresh (.dK (ks.zip vs))
  have lv : vs.length = xs.length := by rw [← hl, hks, List.length_map]
  obtain ⟨ka, hka, hkb⟩ : ∃ ka, (defArgs st).kwarg = some ka ∧ ka.arg = pd := by
    cases hz : (defArgs st).kwarg with
    | none => rw [hz] at a5; cases a5
    | some ka => rw [hz] at a5; exact ⟨ka, rfl, Option.some.inj a5⟩
  have nq : qm ≠ s1.heap.objs.size := fun z => by rw [z, fresh] at hm0; cases hm0
  have mp := met_P I4 (show upd H1 s1.heap.objs.size (.dK (ks.zip vs)) qm = some (.met f0 a) by rw [upd_ne nq]; exact hm0)
  refine ⟨mp, ?_⟩
  have Fx := F xs hnd hlen fun kV doc pm an cdv ct us' ys' lu ly => ?_
  · refine wpAny_call (PySem.W.method_call mp.1 (codeAny_mono (Fx X.A X.stack _ _ (Value.ref a :: []) _ [.ref a] _ Q E (hr.mono hk) I4.env0 (.cons rfl .nil) uv ⟨lv, ρ, S, ys, zs, rep6, ry.ext e6, rz.ext e6, hy, Out.ext e6 out⟩) fun r s' hq => ?_))
    cases r with
    | error e => exact passM tk pins σ _ _ e s' I4 hq
    | ok fl =>
      cases fl with
      | ret u => exact I4.after hq
      | next => exact False.elim hq
      | brk => exact False.elim hq
      | cont => exact False.elim hq
  match us', lu with
  | [u0], _ =>
    have := binds_dd (fd := PySem.W.fnOf m q (defArgs st) (defBody st) (defScope st) .none kV doc pm an cdv ct) (slf := slf) (a := ka) (u := u0) (kw := xs.zip ys') a1 a2 a3 a4 hka rfl (fun x m z => by
      have : x.1 ∈ xs := (List.of_mem_zip (show (x.1, x.2) ∈ xs.zip ys' from m)).1
      rw [z] at this
      rw [List.contains_iff_mem.mpr this] at hns
      cases hns) (by rw [List.length_zip]; exact Nat.le_trans (Nat.min_le_left _ _) (Nat.le_trans hlen (by decide)))
    unfold bindsKw
    rw [this, hkb]
    rfl
theorem pm_methDDv (i : Nat) {x : Str} {px : Pos} (F : KwE X.prog X.w X.K X.mg X.base k c m q st [slf] pd g) (B : BmT X.K X.mg c m) (hr : Room k' X.A) (hk : k ≤ k') (tk : Takes X (fun c d _ H => E c d H)) (ho : PM X E o mo)
    (hN : X.N[i]? = some x := by rfl) (hv : Vis X.env.scope x := by first | exact Or.inl rfl | exact Or.inr (Or.inl rfl) | exact Or.inr (Or.inr rfl)) (hd : (x == ("__debug__" : Str)) = false := by decide +kernel) (hcd : (x == ("__classdict__" : Str)) = false := by decide +kernel)
    (a1 : (defArgs st).posonlyargs = [] := by rfl) (a2 : (defArgs st).args.map (·.arg) = [slf] := by rfl) (a3 : (defArgs st).kwonlyargs = [] := by rfl) (a4 : (defArgs st).vararg = none := by rfl) (a5 : (defArgs st).kwarg.map (·.arg) = some pd := by rfl)
    (hkw : backToKw pos (keywordEach kws X.env) = [(none, do let v ← eval (.Name x px) X.env; standAt pos; pure v)] := by rfl) (hst : starEach [] X.env = [] := by rfl) (hbase : attributeBase o m X.env (eval o X.env) = eval o X.env := by rfl) : PM X E (.Call (.Attribute o m apos) [] kws pos) (mMethDD c m slf g mo i) :=
  pm_methDD F B hr hk tk ho (pe_var hN hv hd hcd) a1 a2 a3 a4 a5 hkw hst hbase
end
section
variable {K : PySem.W.Frag} {h : Heap} {mg : Str → Option Value} {c m : Str} {C g : Addr}
theorem bmt_mk (X : K.In h) (G : h.Ns mainGlobals mg) (a : PySem.W.nsIn K mainGlobals c = some (some (.ref C))) (at_ : PySem.W.findIn K (.ref C) m = some (some (.ref g))) (fn : PySem.W.isFn K (.ref g) = true) (kp : PySem.W.keepIn K (.ref g) = true)
    (gf : PySem.W.specialIn K (.ref g) "__get__" = some (some (.builtin "function.__get__"))) (tk : PySem.W.takesIn K (.ref g) = some false) (cp : PySem.W.copiedNames.contains m = false) (fi : PySem.W.fnIn K g = true) : BmT K mg c m :=
  ⟨C, g, PySem.W.mg_of X G a, ⟨⟨at_, fn, kp⟩, gf, tk, cp, fi⟩⟩
end
section
variable {c m slf : Str} {g : Fn} {mo : SM W} {i : Nat} {s : Env'} {S : Store}
@[simp] theorem mMethDD_eq : mMethDD c m slf g mo i s S = (mo s S).bind fun w S1 => match insAt S1 w with
  | some (c', ns, _) => if c' = c ∧ ns.contains m = false then (mVar i s S1).bind fun d S2 => (match d with
    | .dic ks ws => match strsK ks with
      | some xs => if xs.Nodup ∧ xs.contains slf = false ∧ xs.length ≤ 1000 ∧ ks.length = ws.length then g [w, dicT (kwsW xs ws)] S2 else .bad
      | none => .bad
    | _ => .bad) else .bad
  | none => .bad := rfl
end
end RL
end
section
set_option maxRecDepth 100000
set_option maxHeartbeats 4000000
namespace LC
open PySem PySem.Spec L2 RL
open PyProof.Rows hiding St
noncomputable def c_LETTERS : W := .str "abcdefghijklmnopqrstuvwxyz"
noncomputable def c_MOST_LETTERS : W := .int 6
noncomputable def c_RESERVED : W := .tup ((["all", "none", "closed", "open", "rim", "within", "is", "empty", "if", "else", "end", "repeat", "call", "program", "inputs", "outputs", "self"] : List Str).map W.str)
noncomputable def sh_is_name : SS := (mSeq (mIf (mOrT (mNotT (mTru (mAp (gIsi ktB) (mCons (mVar 0) (mCons (mC (.ty "str")) mNil))))) (mOrT (mNotT (mChT gLe gLe (mC (.int 1)) (mAp (g1 gLen) (mCons (mVar 0) mNil)) (mC c_MOST_LETTERS))) (mBT (gIn false) (mVar 0) (mC c_RESERVED)))) (mRet (mC (.bl false))) mSkip)
  (mRet (mAp (g1 gAll) (mCons (mLc (mItems (mVar 0)) [1] (gNm 1) mYes (mBin (gIn false) (mVar 1) (mC c_LETTERS))) mNil))))
noncomputable def G_is_name : Fn := runB 2 sh_is_name
noncomputable def sh__law_cells : SS := (mSeq (mAsg (mC (.int 5741)) (gNm 1))
  (mSeq (mFor (mItems (mSl (mVar 0) mNoPart (mPart (mC (.int 63))))) (gNm 2) (mAsg (mBin gMod (mAp (g1 gInt) (mCons (mBin gAdd (mBin gAdd (mBin gMul (mVar 1) (mC (.int 43987))) (mBin gMod (mAp (g1 gInt) (mCons (mVar 2) mNil)) (mC (.int 2147483423)))) (mC (.int 61))) mNil)) (mC (.int 2147483629))) (gNm 1)))
  (mRet (mAp gLstR (mCons (mAp (g1 gListOf) (mCons (mSl (mVar 0) mNoPart (mPart (mC (.int 63)))) mNil)) (mCons (mC (.int 0)) (mCons (mC (.int 0)) (mCons (mVar 1) (mCons (mC (.int 0)) mNil)))))))))
noncomputable def G__law_cells : Fn := runB 3 sh__law_cells
noncomputable def sh__law_draw : SS := (mSeq (mAsg (mBin gAdd (mBin gIx (mVar 0) (mC (.int 4))) (mC (.int 1))) (gSubI (mVar 0) (mC (.int 4))))
  (mSeq (mIf (mAndT (mBT (gEq false) (mBin gIx (mVar 0) (mC (.int 2))) (mC (.int 0))) (mBT gLt (mBin gIx (mVar 0) (mC (.int 1))) (mAp (g1 gLen) (mCons (mBin gIx (mVar 0) (mC (.int 0))) mNil)))) (mSeq (mAsg (mBin gIx (mBin gIx (mVar 0) (mC (.int 0))) (mBin gIx (mVar 0) (mC (.int 1)))) (gNm 3))
  (mSeq (mAsg (mBin gAdd (mBin gIx (mVar 0) (mC (.int 1))) (mC (.int 1))) (gSubI (mVar 0) (mC (.int 1))))
  (mIf (mBT gGe (mVar 3) (mBin gPow (mC (.int 10)) (mC (.int 18)))) (mAsg (mVar 3) (gSubI (mVar 0) (mC (.int 2)))) (mAsg (mBin gMod (mAp (g1 gInt) (mCons (mBin gAdd (mBin gAdd (mBin gMul (mBin gIx (mVar 0) (mC (.int 3))) (mC (.int 38561))) (mBin gMul (mBin gMod (mAp (g1 gInt) (mCons (mVar 3) mNil)) (mC (.int 2147483423))) (mC (.int 27947)))) (mC (.int 83))) mNil)) (mC (.int 2147483629))) (gSubI (mVar 0) (mC (.int 3))))))) mSkip)
  (mSeq (mIf (mBT gGt (mBin gIx (mVar 0) (mC (.int 2))) (mC (.int 0))) (mSeq (mAsg (mBin gMod (mAp (g1 gInt) (mCons (mBin gIx (mVar 0) (mC (.int 2))) mNil)) (mVar 1)) (gNm 4))
  (mSeq (mAsg (mBin gDiv (mBin gIx (mVar 0) (mC (.int 2))) (mVar 1)) (gSubI (mVar 0) (mC (.int 2))))
  (mRet (mVar 4)))) mSkip)
  (mSeq (mAsg (mBin gIx (mVar 0) (mC (.int 3))) (gNm 2))
  (mSeq (mAsg (mBin gMod (mAp (g1 gInt) (mCons (mBin gAdd (mBin gAdd (mBin gAdd (mBin gMul (mBin gMul (mVar 2) (mVar 2)) (mC (.int 13))) (mBin gMul (mVar 2) (mC (.int 40961)))) (mBin gMul (mBin gIx (mVar 0) (mC (.int 4))) (mC (.int 1299689)))) (mC (.int 60649))) mNil)) (mC (.int 2147483629))) (gSubI (mVar 0) (mC (.int 3))))
  (mRet (mBin gMod (mAp (g1 gInt) (mCons (mBin gAdd (mBin gDiv (mBin gIx (mVar 0) (mC (.int 3))) (mC (.int 89))) (mBin gMul (mBin gMod (mAp (g1 gInt) (mCons (mBin gIx (mVar 0) (mC (.int 3))) mNil)) (mC (.int 7907))) (mC (.int 71)))) mNil)) (mVar 1))))))))
noncomputable def G__law_draw : Fn := runB 5 sh__law_draw
noncomputable def sh__law_one : SS := (mRet (mBin gIx (mVar 1) (mAp G__law_draw (mCons (mVar 0) (mCons (mAp (g1 gLen) (mCons (mVar 1) mNil)) mNil)))))
noncomputable def G__law_one : Fn := runB 2 sh__law_one
noncomputable def sh__law_same (G__law_same' : Fn) : SS := (mSeq (mIf (mTru (mAp (gIsi ktB) (mCons (mVar 1) (mCons (mAp gTup (mCons (mC (.ty "list")) (mCons (mC (.ty "tuple")) mNil))) mNil)))) (mSeq (mIf (mOrT (mBT (gEq true) (mAp (gIsi ktB) (mCons (mVar 0) (mCons (mC (.ty "list")) mNil))) (mAp (gIsi ktB) (mCons (mVar 1) (mCons (mC (.ty "list")) mNil)))) (mBT (gEq true) (mAp (gIsi ktB) (mCons (mVar 0) (mCons (mC (.ty "tuple")) mNil))) (mAp (gIsi ktB) (mCons (mVar 1) (mCons (mC (.ty "tuple")) mNil))))) (mRet (mC (.bl false))) mSkip)
  (mRet (mAndV (mBin (gEq false) (mAp (g1 gLen) (mCons (mVar 0) mNil)) (mAp (g1 gLen) (mCons (mVar 1) mNil))) (mAp (g1 gAll) (mCons (mLc (mZip (mCons (mVar 0) (mCons (mVar 1) mNil))) [2, 3] (gTp 2 (gCons (gNm 2) (gCons (gNm 3) gNil))) mYes (mAp G__law_same' (mCons (mVar 2) (mCons (mVar 3) mNil)))) mNil))))) mSkip)
  (mSeq (mIf (mOrT (mBT (gIs false) (mVar 1) (mC .non)) (mBT (gIs false) (mVar 0) (mC .non))) (mRet (mAndV (mBin (gIs false) (mVar 1) (mC .non)) (mBin (gIs false) (mVar 0) (mC .non)))) mSkip)
  (mSeq (mIf (mOrT (mBT (gEq true) (mAp (gIsi ktB) (mCons (mVar 1) (mCons (mC (.ty "bool")) mNil))) (mAp (gIsi ktB) (mCons (mVar 0) (mCons (mC (.ty "bool")) mNil)))) (mBT (gEq true) (mAp (gIsi ktB) (mCons (mVar 1) (mCons (mC (.ty "int")) mNil))) (mAp (gIsi ktB) (mCons (mVar 0) (mCons (mC (.ty "int")) mNil))))) (mRet (mC (.bl false))) mSkip)
  (mRet (mAndV (mBin (gEq false) (mAp (gIsi ktB) (mCons (mVar 1) (mCons (mC (.ty "str")) mNil))) (mAp (gIsi ktB) (mCons (mVar 0) (mCons (mC (.ty "str")) mNil)))) (mBin (gEq false) (mVar 0) (mVar 1)))))))
noncomputable def G__law_same : Nat → Fn
  | 0 => fun _ _ => .bad
  | n + 1 => runB 4 (sh__law_same (G__law_same n))
structure Bag where
  cells : List Int
  i : Int
  big : Int
  seed : Int
  cnt : Int
noncomputable def Bag.ob (b : Bag) : Ob := .lst [.lst (b.cells.map .int), .int b.i, .int b.big, .int b.seed, .int b.cnt]
structure Bag.Ok (b : Bag) : Prop where
  i : 0 ≤ b.i
  big : 0 ≤ b.big
  s0 : 0 ≤ b.seed
  s1 : b.seed < 2147483629
theorem cMul_r {i j : Int} (h : -(2 ^ 64) < j) (h' : j < 2 ^ 64) : cMul i j = true := by
  simp only [cMul, Bool.or_eq_true, Bool.and_eq_true, decide_eq_true_eq]
  exact .inr ⟨h, h'⟩
section
variable {S : Store} {l : Nat} {b : Bag} {n : Int}
/-- the end of a draw -/
noncomputable def DrawQ (S : Store) (l : Nat) (n : Int) (a : W) (T : Store) : Prop := ∃ k b', a = .int k ∧ T = S.set l (Bag.ob b') ∧ 0 ≤ k ∧ k < n ∧ Bag.Ok b'
theorem draw_ev (h : S[l]? = some b.ob) (hb : b.Ok) (h0 : 0 < n) (h1 : n < 1073741824) : Ev (G__law_draw [.ref l, .int n] S) (DrawQ S l n) := by
  obtain ⟨cells, i, big, seed, cnt⟩ := b
  obtain ⟨hi, hbig, hs0, hs1⟩ := hb
  dsimp only at hi hbig hs0 hs1
  have hl : l < S.length := by
    rcases Nat.lt_or_ge l S.length with z | z
    · exact z
    · rw [List.getElem?_eq_none z] at h; cases h
  have h := lstAt_get (ws := [.lst (cells.map .int), .int i, .int big, .int seed, .int cnt]) h
  have hm : ∀ x : Int, 0 ≤ x % 2147483629 ∧ x % 2147483629 < 2147483629 := fun x => ⟨Int.emod_nonneg _ (by decide), Int.emod_lt_of_pos _ (by decide)⟩
  have hn : ∀ x : Int, 0 ≤ x % n ∧ x % n < n := fun x => ⟨Int.emod_nonneg _ (by omega), Int.emod_lt_of_pos _ h0⟩
  have hsd : cMul seed seed = true := cMul_r (by omega) (by omega)
  have fin : ∀ x b', Bag.Ok b' → DrawQ S l n (.int (x % n)) (S.set l (Bag.ob b')) := fun x b' hb => ⟨_, _, rfl, rfl, (hn _).1, (hn _).2, hb⟩
  have e1 : ∀ x : Int, cMul x 38561 = true := fun x => cMul_r (by decide) (by decide)
  have e2 : ∀ x : Int, cMul x 27947 = true := fun x => cMul_r (by decide) (by decide)
  have e3 : ∀ x : Int, cMul x 13 = true := fun x => cMul_r (by decide) (by decide)
  have e4 : ∀ x : Int, cMul x 40961 = true := fun x => cMul_r (by decide) (by decide)
  have e5 : ∀ x : Int, cMul x 1299689 = true := fun x => cMul_r (by decide) (by decide)
  have e6 : ∀ x : Int, cMul x 71 = true := fun x => cMul_r (by decide) (by decide)
  by_cases c1 : big = 0 ∧ i < cells.length
  · obtain ⟨c1, c2⟩ := c1
    subst c1
    obtain ⟨cell, hc⟩ : ∃ c, cells[i.toNat]? = some c := ⟨_, List.getElem?_eq_getElem (by omega)⟩
    have hat : atI (cells.map W.int) i = some (.int cell) := by rw [atI_nat hi, List.getElem?_map, hc]; rfl
    by_cases c3 : 1000000000000000000 ≤ cell
    · have : 0 < cell := by omega
      simp [G__law_draw, runB, startW, sh__law_draw, h, gSetI_eq, hl, hat, ixN, c2, c3, this, h0, h1]
      exact fin cell ⟨cells, i + 1, cell / n, seed, cnt + 1⟩ ⟨by dsimp; omega, Int.ediv_nonneg (by omega) (by omega), hs0, hs1⟩
    · have hsd2 := fun x : Int => cMul_r (i := x % 2147483629) (j := x % 2147483629) (by have := hm x; omega) (by have := hm x; omega)
      simp [G__law_draw, runB, startW, sh__law_draw, h, gSetI_eq, hl, hat, ixN, c2, c3, h0, h1, e1, e2, e3, e4, e5, e6, hsd2]
      exact fin _ ⟨cells, i + 1, 0, _, cnt + 1⟩ ⟨by dsimp; omega, Int.le_refl 0, (hm _).1, (hm _).2⟩
  · by_cases c4 : 0 < big
    · have : ¬ big = 0 := by omega
      simp [G__law_draw, runB, startW, sh__law_draw, h, gSetI_eq, hl, ixN, this, c4, h0, h1]
      exact fin _ ⟨cells, i, big / n, seed, cnt + 1⟩ ⟨hi, Int.ediv_nonneg (by omega) (by omega), hs0, hs1⟩
    · have : big = 0 := by omega
      subst this
      have c2 : ¬ i < cells.length := fun z => c1 ⟨rfl, z⟩
      simp [G__law_draw, runB, startW, sh__law_draw, h, gSetI_eq, hl, ixN, c2, h0, h1, e1, e2, e3, e4, e5, e6, hsd]
      exact fin _ ⟨cells, i, 0, _, cnt + 1⟩ ⟨hi, Int.le_refl 0, (hm _).1, (hm _).2⟩
theorem draw_ok (h : S[l]? = some b.ob) (hb : b.Ok) (h0 : 0 < n) (h1 : n < 1073741824) : ∃ k b', 0 ≤ k ∧ k < n ∧ Bag.Ok b' ∧ G__law_draw [.ref l, .int n] S = .ok (.int k) (S.set l b'.ob) := by
  obtain ⟨a, T, e, k, b', rfl, rfl, h2, h3, h4⟩ := (draw_ev h hb h0 h1).ex
  exact ⟨k, b', h2, h3, h4, e⟩
end
section
variable {S : Store} {l : Nat} {b : Bag} {n : Int}
theorem ev_draw {Q : W → Store → Prop} (h : S[l]? = some b.ob) (hb : b.Ok) (h0 : 0 < n) (h1 : n < 1073741824) (k : ∀ (i : Nat) b', (i : Int) < n → Bag.Ok b' → Q (.int i) (S.set l b'.ob)) : Ev (G__law_draw [.ref l, .int n] S) Q := by
  obtain ⟨j, b', h2, h3, h4, e⟩ := draw_ok h hb h0 h1
  rw [e]
  obtain ⟨i, rfl⟩ := Int.eq_ofNat_of_zero_le h2
  exact Ev.ok (k i b' h3 h4)
theorem ev_one {Q : W → Store → Prop} {ws : List W} {w : W} (hw : w = .lst ws ∨ w = .tup ws) (h : S[l]? = some b.ob) (hb : b.Ok) (h0 : ws ≠ []) (h1 : ws.length < 1073741824) (k : ∀ u b', u ∈ ws → Bag.Ok b' → Q u (S.set l b'.ob)) : Ev (G__law_one [.ref l, w] S) Q := by
  have e0 : ∀ T, gLen w T = .ok (.int ws.length) T := by rcases hw with rfl | rfl <;> intro T <;> rfl
  have hp : 0 < ws.length := List.length_pos_iff.mpr h0
  have e1 : ∀ (i : Nat) T, (i : Int) < ws.length → ∃ u, u ∈ ws ∧ gIx w (.int i) T = .ok u T := by
    intro i T hi
    have hi : i < ws.length := by omega
    refine ⟨ws[i], List.getElem_mem _, ?_⟩
    have : atI ws (i : Int) = some ws[i] := by rw [atI_nat (Int.natCast_nonneg i), Int.toNat_natCast]; exact List.getElem?_eq_getElem hi
    rcases hw with rfl | rfl <;> simp [this]
  simp only [G__law_one, runB_eq, startW, sh__law_one, mRet_eq, mBin_eq, mAp_eq, mCons_eq, ev_bind, ev_ok, mVar_0, mVar_s, mNil_eq, g1_eq, List.map_cons, List.map_nil, List.append_nil, List.cons_append, e0, Nat.zero_add]
  refine ev_draw h hb (by omega) (by omega) fun i b' hi hb' => ?_
  obtain ⟨u, hu, e⟩ := e1 i (S.set l b'.ob) hi
  simp only [e, ev_ok, runK_rt]
  exact k u b' hu hb'
end
section
variable {S : Store}
theorem cells_loop : ∀ (ns : List Int) (x : W) (seed : Int) (o : Option W), 0 ≤ seed → seed < 2147483629 → ∃ (seed' : Int) (o' : Option W), 0 ≤ seed' ∧ seed' < 2147483629 ∧
    mForL (gNm 2) (mAsg (mBin gMod (mAp (g1 gInt) (mCons (mBin gAdd (mBin gAdd (mBin gMul (mVar 1) (mC (.int 43987))) (mBin gMod (mAp (g1 gInt) (mCons (mVar 2) mNil)) (mC (.int 2147483423)))) (mC (.int 61))) mNil)) (mC (.int 2147483629))) (gNm 1)) (ns.map W.int) [some x, some (.int seed), o] S = .ok (.nx, [some x, some (.int seed'), o']) S
  | [], x, seed, o, h0, h1 => ⟨seed, o, h0, h1, rfl⟩
  | n :: r, x, seed, o, h0, h1 => by
    have e1 : cMul seed 43987 = true := cMul_r (by decide) (by decide)
    obtain ⟨seed', o', h2, h3, e⟩ := cells_loop r x ((seed * 43987 + n % 2147483423 + 61) % 2147483629) (some (.int n)) (Int.emod_nonneg _ (by decide)) (Int.emod_lt_of_pos _ (by decide))
    refine ⟨seed', o', h2, h3, ?_⟩
    rw [← e, List.map_cons]
    simp [mForL, e1]
theorem cells_ok {ns : List Int} (h : ns.length ≤ 63) : ∃ b, Bag.Ok b ∧ G__law_cells [.flst (ns.map .int)] S = .ok (.ref S.length) (S ++ [b.ob]) := by
  obtain ⟨seed', o', h2, h3, e⟩ := cells_loop (S := S) ns (.flst (ns.map .int)) 5741 none (by decide) (by decide)
  have hc : cutW (ns.map W.int) none (some 63) = ns.map W.int := by
    unfold cutW
    have : min 63 ns.length = ns.length := by omega
    simp only [HT.sIx, List.length_map, Nat.sub_zero, List.drop_zero, show ¬ ((63 : Int) < 0) by decide, if_false, show (63 : Int).toNat = 63 from rfl, this]
    exact List.take_of_length_le (by rw [List.length_map]; exact Nat.le_refl _)
  refine ⟨⟨ns, 0, 0, seed', 0⟩, ⟨Int.le_refl 0, Int.le_refl 0, h2, h3⟩, ?_⟩
  simp [G__law_cells, runB_eq, startW, sh__law_cells, hc, e, Bag.ob]
end
/-! ### equality of plain values -/
noncomputable def plainW : Nat → W → Bool
  | 0, _ => false
  | n + 1, w => match w with
    | .non | .bl _ | .int _ | .str _ => true
    | .lst ws => decide (ws.length ≤ lim) && ws.all (plainW n)
    | .tup ws => decide (ws.length ≤ lim) && ws.all (plainW n)
    | _ => false
theorem zipW_self (ws : List W) : zipW ws ws = ws.map fun w => .tup [w, w] := by
  induction ws with
  | nil => rfl
  | cons w r ih =>
    have : zipW (w :: r) (w :: r) = .tup [w, w] :: zipW r r := rfl
    rw [this, ih]
    rfl
theorem blsW_map {α : Type} (f : α → Bool) (ws : List α) : blsW (ws.map fun w => W.bl (f w)) = some (ws.map f) := by
  induction ws with
  | nil => rfl
  | cons w r ih => simp [blsW, ih]
theorem same_self : ∀ (n : Nat) (w : W), plainW n w = true → ∀ S, G__law_same n [w, w] S = .ok (.bl true) S
  | 0, w, h => by cases h
  | n + 1, w, h => fun S => by
    have inner : ∀ (ws : List W), ws.all (plainW n) = true → ws.length ≤ lim → ∀ (T : Store) (a b : Option W), mLcL (gTp 2 (gCons (gNm 2) (gCons (gNm 3) gNil))) mYes (mAp (G__law_same n) (mCons (mVar 2) (mCons (mVar 3) mNil))) [a, b, none, none] (zipW ws ws) [] T = .ok (ws.map fun _ => .bl true) T := by
      intro ws hw hl T a b
      rw [zipW_self, lcL_pure (fun _ => .bl true) _ [] (by simpa using hl) fun u hu => ?_]
      · simp
      · obtain ⟨v, hv, rfl⟩ := List.mem_map.mp hu
        refine ⟨[a, b, some v, some v], by simp, ?_⟩
        have := same_self n v (List.all_eq_true.mp hw v hv) T
        simp [this]
    have isi : ∀ (t : String) (w : W) (x : String) (b : Bool) T, tyOf T w = some (.ty t) → ktB (.ty t) (.ty x) = some b → gIsi ktB [w, .ty x] T = .ok (.bl b) T := by
      intro t w x b T h1 h2
      simp [gIsi, gIsi1, h1, isCls, h2]
    have isi2 : ∀ (t : String) (w : W) (b b' : Bool) T, tyOf T w = some (.ty t) → ktB (.ty t) (.ty "list") = some b → ktB (.ty t) (.ty "tuple") = some b' → gIsi ktB [w, .tup [.ty "list", .ty "tuple"]] T = .ok (.bl (b || b')) T := by
      intro t w b b' T h1 h2 h3
      cases b <;> cases b' <;> simp [gIsi, gIsi1, h1, isCls, tupL, ktAny, h2, h3]
    have seqs : ∀ (ws : List W), ws.all (plainW n) = true → ws.length ≤ lim → G__law_same (n + 1) [.lst ws, .lst ws] S = .ok (.bl true) S ∧ G__law_same (n + 1) [.tup ws, .tup ws] S = .ok (.bl true) S := by
      intro ws hw hl
      refine ⟨?_, ?_⟩
      · have i1 := isi "list" (.lst ws) "list" true S rfl rfl
        have i2 := isi "list" (.lst ws) "tuple" false S rfl rfl
        have i3 := isi2 "list" (.lst ws) true false S rfl rfl rfl
        simp [G__law_same, runB_eq, startW, sh__law_same, i1, i2, i3, inner ws hw hl, blsW_map, truW, wipeW, gAll]
      · have i1 := isi "tuple" (.tup ws) "list" false S rfl rfl
        have i2 := isi "tuple" (.tup ws) "tuple" true S rfl rfl
        have i3 := isi2 "tuple" (.tup ws) false true S rfl rfl rfl
        simp [G__law_same, runB_eq, startW, sh__law_same, i1, i2, i3, inner ws hw hl, blsW_map, truW, wipeW, gAll]
    cases w with
    | lst ws => rw [plainW, Bool.and_eq_true, decide_eq_true_eq] at h; exact (seqs ws h.2 h.1).1
    | tup ws => rw [plainW, Bool.and_eq_true, decide_eq_true_eq] at h; exact (seqs ws h.2 h.1).2
    | non =>
      have i3 := isi2 "NoneType" .non false false S rfl rfl rfl
      simp [G__law_same, runB_eq, startW, sh__law_same, i3, truW, isNonW]
    | bl b =>
      have i1 := isi "bool" (.bl b) "bool" true S rfl rfl
      have i2 := isi "bool" (.bl b) "int" true S rfl rfl
      have i4 := isi "bool" (.bl b) "str" false S rfl rfl
      have i3 := isi2 "bool" (.bl b) false false S rfl rfl rfl
      simp [G__law_same, runB_eq, startW, sh__law_same, i1, i2, i3, i4, truW, isNonW]
    | int b =>
      have i1 := isi "int" (.int b) "bool" false S rfl rfl
      have i2 := isi "int" (.int b) "int" true S rfl rfl
      have i4 := isi "int" (.int b) "str" false S rfl rfl
      have i3 := isi2 "int" (.int b) false false S rfl rfl rfl
      simp [G__law_same, runB_eq, startW, sh__law_same, i1, i2, i3, i4, truW, isNonW]
    | str b =>
      have i1 := isi "str" (.str b) "bool" false S rfl rfl
      have i2 := isi "str" (.str b) "int" false S rfl rfl
      have i4 := isi "str" (.str b) "str" true S rfl rfl
      have i3 := isi2 "str" (.str b) false false S rfl rfl rfl
      simp [G__law_same, runB_eq, startW, sh__law_same, i1, i2, i3, i4, truW, isNonW]
    | _ => cases h
/-! ### words -/
section
variable {S : Store} {l : Nat} {b : Bag}
theorem get_len {S : Store} {l : Nat} {o : Ob} (h : S[l]? = some o) : l < S.length := by
  rcases Nat.lt_or_ge l S.length with z | z
  · exact z
  · rw [List.getElem?_eq_none z] at h; cases h
end
/-! ### names -/
noncomputable def lettersL : List Nat := [97, 98, 99, 100, 101, 102, 103, 104, 105, 106, 107, 108, 109, 110, 111, 112, 113, 114, 115, 116, 117, 118, 119, 120, 121, 122]
theorem letters_eq : c_LETTERS = .str (tx lettersL) := congrArg W.str (lit_eq (by decide +kernel))
noncomputable def reservedL : List (List Nat) := (["all", "none", "closed", "open", "rim", "within", "is", "empty", "if", "else", "end", "repeat", "call", "program", "inputs", "outputs", "self"] : List String).map fun x => x.toList.map Char.toNat
theorem reserved_eq : c_RESERVED = .tup ((reservedL.map tx).map W.str) := by
  have : ∀ ys : List String, ys.map (fun x => Str.ofString x) = (ys.map fun x => x.toList.map Char.toNat).map tx := by
    intro ys
    rw [List.map_map]
    exact List.map_congr_left fun x _ => lit_eq rfl
  exact congrArg (fun z => W.tup (z.map W.str)) (this ["all", "none", "closed", "open", "rim", "within", "is", "empty", "if", "else", "end", "repeat", "call", "program", "inputs", "outputs", "self"])
/-- whether these signs are a name -/
noncomputable def nameL (a : List Nat) : Bool := decide (1 ≤ a.length) && decide (a.length ≤ 6) && !decide (a ∈ reservedL) && a.all fun c => decide (c ∈ lettersL)
section
variable {S : Store} {a : List Nat}
theorem isi_str {x : Str} : gIsi ktB [.str x, .ty "str"] S = .ok (.bl true) S := by
  simp [gIsi, gIsi1, tyOf, isCls, show ktB (.ty "str") (.ty "str") = some true from rfl]
theorem is_name_tx (h : a.length ≤ lim) : G_is_name [.str (tx a)] S = .ok (.bl (nameL a)) S := by
  have hres : ∀ T, gIn false (.str (tx a)) c_RESERVED T = .ok (.bl (decide (a ∈ reservedL))) T := by
    intro T
    rw [reserved_eq, gIn_strs (ys := reservedL.map tx) rfl]
    have : decide (tx a ∈ reservedL.map tx) = decide (a ∈ reservedL) := by
      rw [decide_eq_decide, List.mem_map]
      exact ⟨fun ⟨b, hb, e⟩ => by rw [← tx_inj.mp e]; exact hb, fun hb => ⟨a, hb, rfl⟩⟩
    rw [this, xorB_f]
  have loop : ∀ o T, mLcL (gNm 1) mYes (mBin (gIn false) (mVar 1) (mC c_LETTERS)) [o, none] (a.map fun c => .str (tx [c])) [] T = .ok (a.map fun c => .bl (decide (c ∈ lettersL))) T := by
    intro o T
    rw [lcL_pure (fun w => match w with
      | .str x => .bl (x.cps.toList.all fun c => decide (c ∈ lettersL))
      | w => w) _ [] (by simpa using h) fun u hu => ?_]
    · rw [List.nil_append, List.map_map]
      refine congrArg (fun z => Res.ok z T) (List.map_congr_left fun c _ => ?_)
      show W.bl ((tx [c]).cps.toList.all _) = _
      rw [tx_list]
      simp
    · obtain ⟨c, hc, rfl⟩ := List.mem_map.mp hu
      refine ⟨_, rfl, ?_⟩
      show _ = Res.ok (W.bl ((tx [c]).cps.toList.all _)) T
      rw [tx_list]
      simp [letters_eq, gIn_sign]
  have bs : ∀ f : Nat → Bool, blsW (a.map fun c => .bl (f c)) = some (a.map f) := fun f => blsW_map f a
  by_cases h1 : 1 ≤ a.length
  · by_cases h6 : a.length ≤ 6
    · by_cases hr : a ∈ reservedL
      · simp [G_is_name, runB_eq, startW, sh_is_name, isi_str, truW, h, h1, h6, hres, hr, nameL, c_MOST_LETTERS]
        simp [show (1 : Int) ≤ (a.length : Int) from by omega, show (a.length : Int) ≤ 6 from by omega, hres, hr]
      · simp [G_is_name, runB_eq, startW, sh_is_name, isi_str, truW, h, h1, h6, hres, hr, nameL, c_MOST_LETTERS, show (1 : Int) ≤ (a.length : Int) from by omega, show (a.length : Int) ≤ 6 from by omega, loop, wipeW, gAll, bs]
    · simp [G_is_name, runB_eq, startW, sh_is_name, isi_str, truW, h, h1, h6, nameL, c_MOST_LETTERS, show (1 : Int) ≤ (a.length : Int) from by omega, show ¬ (a.length : Int) ≤ 6 from by omega]
  · simp [G_is_name, runB_eq, startW, sh_is_name, isi_str, truW, h, h1, nameL, c_MOST_LETTERS, show ¬ (1 : Int) ≤ (a.length : Int) from by omega]
end
theorem is_name_no {S : Store} {w : W} {t : String} (h1 : tyOf S w = some (.ty t)) (h2 : ktB (.ty t) (.ty "str") = some false) : G_is_name [w] S = .ok (.bl false) S := by
  have : gIsi ktB [w, .ty "str"] S = .ok (.bl false) S := by simp [gIsi, gIsi1, h1, isCls, h2]
  simp [G_is_name, runB_eq, startW, sh_is_name, this, truW]
end LC
end
section
set_option maxRecDepth 100000
set_option maxHeartbeats 4000000
namespace LTm
open PySem PySem.Spec L2 RL LC
open PyProof.Rows hiding St
noncomputable def c_MOST_DEEP : W := .int 40
noncomputable def c_MOST_PARTS : W := .int 2000
noncomputable def c_WORDS : W := .tup ((["closed", "open", "rim"] : List Str).map W.str)
noncomputable def c_SHOWN : List (Str × Str) := [("or", "|"), ("and", "&"), ("less", "-")]
noncomputable def sh_Term_of : SS := (mSeq (mIf (mTru (mAp (gIsi (ktC "Term")) (mCons (mVar 0) (mCons (mC (.gl "Term")) mNil)))) (mRet (mAp (gMake "Term" ["node", "deep", "part_count"]) (mCons (mUn (gFld "Term" "node") (mVar 0)) (mCons (mUn (gFld "Term" "deep") (mVar 0)) (mCons (mUn (gFld "Term" "part_count") (mVar 0)) mNil))))) mSkip)
  (mSeq (mIf (mNotT (mTru (mAp G_is_name (mCons (mVar 0) mNil)))) mNever mSkip)
  (mRet (mAp (gMake "Term" ["node", "deep", "part_count"]) (mCons (mAp gTup (mCons (mC (.str "name")) (mCons (mVar 0) mNil))) (mCons (mC (.int 1)) (mCons (mC (.int 1)) mNil)))))))
noncomputable def G_Term_of : Fn := runB 1 sh_Term_of
noncomputable def sh_need_size : SS := (mSeq (mIf (mBT gGt (mVar 0) (mC c_MOST_DEEP)) mNever mSkip)
  (mIf (mBT gGt (mVar 1) (mC c_MOST_PARTS)) mNever mSkip))
noncomputable def G_need_size : Fn := runB 2 sh_need_size
noncomputable def sh_joined : SS := (mSeq (mAsg (mLc (mItems (mVar 1)) [5] (gNm 5) mYes (mAp G_Term_of (mCons (mVar 5) mNil))) (gNm 2))
  (mSeq (mPar 3 4 (mCons (mBin gAdd (mC (.int 1)) (mAp (g1 gMax) (mCons (mLc (mItems (mVar 2)) [6] (gNm 6) mYes (mUn (gFld "Term" "deep") (mVar 6))) mNil))) (mCons (mBin gAdd (mC (.int 1)) (mAp (g1 gSum) (mCons (mLc (mItems (mVar 2)) [6] (gNm 6) mYes (mUn (gFld "Term" "part_count") (mVar 6))) mNil))) mNil)))
  (mSeq (mExpr (mAp G_need_size (mCons (mVar 3) (mCons (mVar 4) mNil))))
  (mRet (mAp (gMake "Term" ["node", "deep", "part_count"]) (mCons (mAp gTup (mCons (mVar 0) (mStar (mLc (mItems (mVar 2)) [6] (gNm 6) mYes (mUn (gFld "Term" "node") (mVar 6))) mNil))) (mCons (mVar 3) (mCons (mVar 4) mNil))))))))
noncomputable def G_joined : Fn := runB 7 sh_joined
noncomputable def sh_Term___or__ : SS := (mRet (mAp (gStar 1 G_joined) (mCons (mC (.str "or")) (mCons (mVar 0) (mCons (mVar 1) mNil)))))
noncomputable def G_Term___or__ : Fn := runB 2 sh_Term___or__
noncomputable def sh_Term___ror__ : SS := (mRet (mAp (gStar 1 G_joined) (mCons (mC (.str "or")) (mCons (mVar 1) (mCons (mVar 0) mNil)))))
noncomputable def G_Term___ror__ : Fn := runB 2 sh_Term___ror__
noncomputable def sh_Term___invert__ : SS := (mRet (mAp (gStar 1 G_joined) (mCons (mC (.str "not")) (mCons (mVar 0) mNil))))
noncomputable def G_Term___invert__ : Fn := runB 1 sh_Term___invert__
noncomputable def sh_Term_closed : SS := (mRet (mAp (gStar 1 G_joined) (mCons (mC (.str "closed")) (mCons (mVar 0) mNil))))
noncomputable def G_Term_closed : Fn := runB 1 sh_Term_closed
noncomputable def sh_Term_opened : SS := (mRet (mAp (gStar 1 G_joined) (mCons (mC (.str "open")) (mCons (mVar 0) mNil))))
noncomputable def G_Term_opened : Fn := runB 1 sh_Term_opened
noncomputable def sh_Term_rim : SS := (mRet (mAp (gStar 1 G_joined) (mCons (mC (.str "rim")) (mCons (mVar 0) mNil))))
noncomputable def G_Term_rim : Fn := runB 1 sh_Term_rim
noncomputable def sh_node_text (G_node_text' : Fn) : SS := (mSeq (mAsg (mBin gIx (mVar 0) (mC (.int 0))) (gNm 1))
  (mSeq (mIf (mBT (gIn false) (mVar 1) (mAp gTup (mCons (mC (.str "all")) (mCons (mC (.str "none")) mNil)))) (mRet (mVar 1)) mSkip)
  (mSeq (mIf (mBT (gEq false) (mVar 1) (mC (.str "name"))) (mRet (mBin gIx (mVar 0) (mC (.int 1)))) mSkip)
  (mSeq (mIf (mBT (gEq false) (mVar 1) (mC (.str "not"))) (mRet (mBin gAdd (mC (.str "~")) (mAp G_node_text' (mCons (mBin gIx (mVar 0) (mC (.int 1))) mNil)))) mSkip)
  (mSeq (mIf (mBT (gIn false) (mVar 1) (mC c_WORDS)) (mRet (mJoined [(mFmt (mVar 1)), (mC (.str "(")), (mFmt (mAp G_node_text' (mCons (mBin gIx (mVar 0) (mC (.int 1))) mNil))), (mC (.str ")"))])) mSkip)
  (mRet (mJoined [(mC (.str "(")), (mFmt (mAp G_node_text' (mCons (mBin gIx (mVar 0) (mC (.int 1))) mNil))), (mC (.str " ")), (mFmt (mCDict c_SHOWN (mVar 1))), (mC (.str " ")), (mFmt (mAp G_node_text' (mCons (mBin gIx (mVar 0) (mC (.int 2))) mNil))), (mC (.str ")"))])))))))
noncomputable def G_node_text : Nat → Fn
  | 0 => fun _ _ => .bad
  | n + 1 => runB 2 (sh_node_text (G_node_text n))
noncomputable def sh_inner_nodes : SS := (mRet (mIfE (mBT (gIn false) (mBin gIx (mVar 0) (mC (.int 0))) (mAp gTup (mCons (mC (.str "all")) (mCons (mC (.str "none")) (mCons (mC (.str "name")) mNil))))) (mAp gTup mNil) (mSl (mVar 0) (mPart (mC (.int 1))) mNoPart)))
noncomputable def G_inner_nodes : Fn := runB 1 sh_inner_nodes
noncomputable def sh_Term_text : SS := (mRet (mAp (G_node_text 24) (mCons (mUn (gFld "Term" "node") (mVar 0)) mNil)))
noncomputable def G_Term_text : Fn := runB 1 sh_Term_text
noncomputable def sh__law_leaf : SS := (mSeq (mIf (mOrT (mBT (gEq false) (mVar 1) (mAp gLst mNil)) (mBT (gEq false) (mAp G__law_draw (mCons (mVar 0) (mCons (mC (.int 8)) mNil))) (mC (.int 0)))) (mRet (mAp G__law_one (mCons (mVar 0) (mCons (mAp gLst (mCons (mAp gTup (mCons (mC (.str "all")) mNil)) (mCons (mAp gTup (mCons (mC (.str "none")) mNil)) mNil))) mNil)))) mSkip)
  (mRet (mAp gTup (mCons (mC (.str "name")) (mCons (mAp G__law_one (mCons (mVar 0) (mCons (mVar 1) mNil))) mNil)))))
noncomputable def G__law_leaf : Fn := runB 2 sh__law_leaf
noncomputable def sh__law_form (G__law_form' : Fn) : SS := (mSeq (mAsg (mAp G__law_draw (mCons (mVar 0) (mCons (mC (.int 9)) mNil))) (gNm 3))
  (mSeq (mIf (mOrT (mBT gLt (mVar 2) (mC (.int 2))) (mBT (gEq false) (mVar 3) (mC (.int 0)))) (mRet (mAp G__law_leaf (mCons (mVar 0) (mCons (mVar 1) mNil)))) mSkip)
  (mSeq (mAsg (mAp G__law_form' (mCons (mVar 0) (mCons (mVar 1) (mCons (mBin gSub (mVar 2) (mC (.int 1))) mNil)))) (gNm 4))
  (mSeq (mIf (mBT gLt (mVar 3) (mC (.int 5))) (mRet (mAp gTup (mCons (mBin gIx (mAp gLst (mCons (mC (.str "not")) (mCons (mC (.str "closed")) (mCons (mC (.str "open")) (mCons (mC (.str "rim")) mNil))))) (mBin gSub (mVar 3) (mC (.int 1)))) (mCons (mVar 4) mNil)))) mSkip)
  (mRet (mAp gTup (mCons (mBin gIx (mAp gLst (mCons (mC (.str "or")) (mCons (mC (.str "and")) (mCons (mC (.str "less")) (mCons (mC (.str "and")) mNil))))) (mBin gSub (mVar 3) (mC (.int 5)))) (mCons (mVar 4) (mCons (mAp G__law_form' (mCons (mVar 0) (mCons (mVar 1) (mCons (mBin gSub (mVar 2) (mC (.int 1))) mNil)))) mNil)))))))))
noncomputable def G__law_form : Nat → Fn
  | 0 => fun _ _ => .bad
  | n + 1 => runB 5 (sh__law_form (G__law_form n))
noncomputable def sh__law_text (G__law_text' : Fn) : SS := (mSeq (mIf (mBT (gIn false) (mBin gIx (mVar 0) (mC (.int 0))) (mAp gTup (mCons (mC (.str "all")) (mCons (mC (.str "none")) mNil)))) (mRet (mBin gIx (mVar 0) (mC (.int 0)))) mSkip)
  (mSeq (mIf (mBT (gEq false) (mBin gIx (mVar 0) (mC (.int 0))) (mC (.str "name"))) (mRet (mBin gIx (mVar 0) (mC (.int 1)))) mSkip)
  (mSeq (mIf (mBT (gEq false) (mBin gIx (mVar 0) (mC (.int 0))) (mC (.str "not"))) (mRet (mBin gAdd (mC (.str "~")) (mAp G__law_text' (mCons (mBin gIx (mVar 0) (mC (.int 1))) mNil)))) mSkip)
  (mSeq (mIf (mBT (gIn false) (mBin gIx (mVar 0) (mC (.int 0))) (mAp gTup (mCons (mC (.str "closed")) (mCons (mC (.str "open")) (mCons (mC (.str "rim")) mNil))))) (mRet (mBin gAdd (mBin gAdd (mBin gAdd (mBin gIx (mVar 0) (mC (.int 0))) (mC (.str "("))) (mAp G__law_text' (mCons (mBin gIx (mVar 0) (mC (.int 1))) mNil))) (mC (.str ")")))) mSkip)
  (mRet (mBin gAdd (mBin gAdd (mBin gAdd (mBin gAdd (mC (.str "(")) (mAp G__law_text' (mCons (mBin gIx (mVar 0) (mC (.int 1))) mNil))) (mBin gDGet (mDisp (mPCons (mC (.str "or")) (mC (.str " | ")) (mPCons (mC (.str "and")) (mC (.str " & ")) (mPCons (mC (.str "less")) (mC (.str " - ")) mPNil)))) (mBin gIx (mVar 0) (mC (.int 0))))) (mAp G__law_text' (mCons (mBin gIx (mVar 0) (mC (.int 2))) mNil))) (mC (.str ")"))))))))
noncomputable def G__law_text : Nat → Fn
  | 0 => fun _ _ => .bad
  | n + 1 => runB 1 (sh__law_text (G__law_text n))
noncomputable def sh_Term_whole : SS := (mRet (mAp (gMake "Term" ["node", "deep", "part_count"]) (mCons (mAp gTup (mCons (mC (.str "all")) mNil)) (mCons (mC (.int 1)) (mCons (mC (.int 1)) mNil)))))
noncomputable def G_Term_whole : Fn := runB 0 sh_Term_whole
noncomputable def sh_Term_nothing : SS := (mRet (mAp (gMake "Term" ["node", "deep", "part_count"]) (mCons (mAp gTup (mCons (mC (.str "none")) mNil)) (mCons (mC (.int 1)) (mCons (mC (.int 1)) mNil)))))
noncomputable def G_Term_nothing : Fn := runB 0 sh_Term_nothing
noncomputable def sh_Term___and__ : SS := (mRet (mAp (gStar 1 G_joined) (mCons (mC (.str "and")) (mCons (mVar 0) (mCons (mVar 1) mNil)))))
noncomputable def G_Term___and__ : Fn := runB 2 sh_Term___and__
noncomputable def sh_Term___rand__ : SS := (mRet (mAp (gStar 1 G_joined) (mCons (mC (.str "and")) (mCons (mVar 1) (mCons (mVar 0) mNil)))))
noncomputable def G_Term___rand__ : Fn := runB 2 sh_Term___rand__
noncomputable def sh_Term___sub__ : SS := (mRet (mAp (gStar 1 G_joined) (mCons (mC (.str "less")) (mCons (mVar 0) (mCons (mVar 1) mNil)))))
noncomputable def G_Term___sub__ : Fn := runB 2 sh_Term___sub__
noncomputable def sh_Term___rsub__ : SS := (mRet (mAp (gStar 1 G_joined) (mCons (mC (.str "less")) (mCons (mVar 1) (mCons (mVar 0) mNil)))))
noncomputable def G_Term___rsub__ : Fn := runB 2 sh_Term___rsub__
noncomputable def sh__law_term (G__law_term' : Fn) : SS := (mSeq (mIf (mBT (gIn false) (mBin gIx (mVar 0) (mC (.int 0))) (mAp gTup (mCons (mC (.str "all")) (mCons (mC (.str "none")) mNil)))) (mRet (mIfE (mBT (gEq false) (mBin gIx (mVar 0) (mC (.int 0))) (mC (.str "all"))) (mAp G_Term_whole mNil) (mAp G_Term_nothing mNil))) mSkip)
  (mSeq (mIf (mBT (gEq false) (mBin gIx (mVar 0) (mC (.int 0))) (mC (.str "name"))) (mRet (mAp G_Term_of (mCons (mBin gIx (mVar 0) (mC (.int 1))) mNil))) mSkip)
  (mSeq (mAsg (mAp G__law_term' (mCons (mBin gIx (mVar 0) (mC (.int 1))) mNil)) (gNm 1))
  (mSeq (mIf (mBT (gIn false) (mBin gIx (mVar 0) (mC (.int 0))) (mAp gTup (mCons (mC (.str "closed")) (mCons (mC (.str "open")) mNil)))) (mRet (mIfE (mBT (gEq false) (mBin gIx (mVar 0) (mC (.int 0))) (mC (.str "closed"))) (mMeth "Term" "closed" G_Term_closed (mVar 1) mNil) (mMeth "Term" "opened" G_Term_opened (mVar 1) mNil))) mSkip)
  (mSeq (mIf (mBT (gIn false) (mBin gIx (mVar 0) (mC (.int 0))) (mAp gTup (mCons (mC (.str "not")) (mCons (mC (.str "rim")) mNil)))) (mRet (mIfE (mBT (gEq false) (mBin gIx (mVar 0) (mC (.int 0))) (mC (.str "not"))) (mUn (gInv "Term" G_Term___invert__) (mVar 1)) (mMeth "Term" "rim" G_Term_rim (mVar 1) mNil))) mSkip)
  (mSeq (mAsg (mAp G__law_term' (mCons (mBin gIx (mVar 0) (mC (.int 2))) mNil)) (gNm 2))
  (mRet (mIfE (mBT (gEq false) (mBin gIx (mVar 0) (mC (.int 0))) (mC (.str "or"))) (mBin (gOwn "Term" (fun _ _ _ => .bad) G_Term___or__ G_Term___ror__) (mVar 1) (mVar 2)) (mIfE (mBT (gEq false) (mBin gIx (mVar 0) (mC (.int 0))) (mC (.str "and"))) (mBin (gOwn "Term" (fun _ _ _ => .bad) G_Term___and__ G_Term___rand__) (mVar 1) (mVar 2)) (mBin (gOwn "Term" gSub G_Term___sub__ G_Term___rsub__) (mVar 1) (mVar 2)))))))))))
noncomputable def G__law_term : Nat → Fn
  | 0 => fun _ _ => .bad
  | n + 1 => runB 3 (sh__law_term (G__law_term n))
/-! ### the words -/
inductive Wd where
  | all | none | name | not | closed | opn | rim | or | and | less
  deriving DecidableEq
noncomputable def Wd.s : Wd → Str
  | .all => "all" | .none => "none" | .name => "name" | .not => "not" | .closed => "closed" | .opn => "open" | .rim => "rim" | .or => "or" | .and => "and" | .less => "less"
noncomputable def Wd.c : Wd → List Nat
  | .all => [97, 108, 108] | .none => [110, 111, 110, 101] | .name => [110, 97, 109, 101] | .not => [110, 111, 116] | .closed => [99, 108, 111, 115, 101, 100] | .opn => [111, 112, 101, 110] | .rim => [114, 105, 109] | .or => [111, 114] | .and => [97, 110, 100] | .less => [108, 101, 115, 115]
theorem s_tx (a : Wd) : a.s = tx a.c := by cases a <;> exact lit_eq (by decide +kernel)
theorem c_inj {a b : Wd} (h : a.c = b.c) : a = b := by cases a <;> cases b <;> first | rfl | (revert h; decide)
@[simp] theorem s_inj {a b : Wd} : (a.s = b.s) ↔ a = b := ⟨fun h => c_inj (by rw [s_tx, s_tx, tx_inj] at h; exact h), fun h => by rw [h]⟩
@[simp] theorem s_beq {a b : Wd} : (a.s == b.s) = decide (a = b) := by rw [Bool.eq_iff_iff, beq_iff_eq, s_inj, decide_eq_true_eq]
@[simp] theorem l_all : (Str.ofString "all") = Wd.all.s := rfl
@[simp] theorem l_none : (Str.ofString "none") = Wd.none.s := rfl
@[simp] theorem l_name : (Str.ofString "name") = Wd.name.s := rfl
@[simp] theorem l_not : (Str.ofString "not") = Wd.not.s := rfl
@[simp] theorem l_closed : (Str.ofString "closed") = Wd.closed.s := rfl
@[simp] theorem l_open : (Str.ofString "open") = Wd.opn.s := rfl
@[simp] theorem l_rim : (Str.ofString "rim") = Wd.rim.s := rfl
@[simp] theorem l_or : (Str.ofString "or") = Wd.or.s := rfl
@[simp] theorem l_and : (Str.ofString "and") = Wd.and.s := rfl
@[simp] theorem l_less : (Str.ofString "less") = Wd.less.s := rfl
@[simp] theorem s_len {a : Wd} : a.s.length = a.c.length := by rw [s_tx, tx_len]
/-- a word in a row of words -/
theorem in_wd {neg : Bool} {a : Wd} {S : Store} (l : List Wd) : gIn neg (.str a.s) (.tup (l.map fun b => .str b.s)) S = .ok (.bl (xorB neg (decide (a ∈ l)))) S := by
  have := gIn_strs (n := neg) (x := a.s) (S := S) (w := .tup (l.map fun b => .str b.s)) (ys := l.map Wd.s) (by simp [tupL])
  rw [this]
  have e : decide (a.s ∈ l.map Wd.s) = decide (a ∈ l) := by
    rw [decide_eq_decide, List.mem_map]
    exact ⟨fun ⟨b, hb, e⟩ => by rw [← s_inj.mp e]; exact hb, fun hb => ⟨a, hb, rfl⟩⟩
  rw [e]
section
variable {neg : Bool} {a b c d e f : Wd} {S : Store}
@[simp] theorem in_wd2 : gIn neg (.str a.s) (.tup [.str b.s, .str c.s]) S = .ok (.bl (xorB neg (decide (a ∈ [b, c])))) S := in_wd [b, c]
@[simp] theorem in_wd3 : gIn neg (.str a.s) (.tup [.str b.s, .str c.s, .str d.s]) S = .ok (.bl (xorB neg (decide (a ∈ [b, c, d])))) S := in_wd [b, c, d]
@[simp] theorem in_wd5 {g : Wd} : gIn neg (.str a.s) (.tup [.str b.s, .str c.s, .str d.s, .str e.s, .str g.s]) S = .ok (.bl (xorB neg (decide (a ∈ [b, c, d, e, g])))) S := in_wd [b, c, d, e, g]
theorem words_eq : c_WORDS = .tup [.str Wd.closed.s, .str Wd.opn.s, .str Wd.rim.s] := rfl
end
/-! ### forms -/
inductive U where
  | not | closed | opn | rim
inductive B where
  | or | and | less
noncomputable def U.w : U → Wd
  | .not => .not | .closed => .closed | .opn => .opn | .rim => .rim
noncomputable def B.w : B → Wd
  | .or => .or | .and => .and | .less => .less
noncomputable def B.sign : B → Nat
  | .or => 124 | .and => 38 | .less => 45
inductive Form where
  | all | none
  | name (x : List Nat)
  | un (u : U) (f : Form)
  | bin (b : B) (f g : Form)
noncomputable def toW : Form → W
  | .all => .tup [.str Wd.all.s]
  | .none => .tup [.str Wd.none.s]
  | .name x => .tup [.str Wd.name.s, .str (tx x)]
  | .un u f => .tup [.str u.w.s, toW f]
  | .bin b f g => .tup [.str b.w.s, toW f, toW g]
/-- how deep -/
noncomputable def dep : Form → Nat
  | .un _ f => dep f + 1
  | .bin _ f g => max (dep f) (dep g) + 1
  | _ => 1
/-- within -/
inductive Sub : Form → Form → Prop where
  | self {f : Form} : Sub f f
  | un {g f : Form} {u : U} (h : Sub g f) : Sub g (.un u f)
  | left {k f g : Form} {b : B} (h : Sub k f) : Sub k (.bin b f g)
  | right {k f g : Form} {b : B} (h : Sub k g) : Sub k (.bin b f g)
noncomputable def prt : Form → Nat
  | .un _ f => prt f + 1
  | .bin _ f g => prt f + prt g + 1
  | _ => 1
noncomputable def txt : Form → List Nat
  | .all => Wd.all.c
  | .none => Wd.none.c
  | .name x => x
  | .un .not f => 126 :: txt f
  | .un u f => u.w.c ++ 40 :: (txt f ++ [41])
  | .bin b f g => 40 :: (txt f ++ 32 :: b.sign :: 32 :: (txt g ++ [41]))
theorem dep_pos (f : Form) : 1 ≤ dep f := by cases f <;> simp [dep]
@[simp] theorem tx_c {a : Wd} : tx a.c = a.s := (s_tx a).symm
@[simp] theorem s_cat {a : Wd} {l : List Nat} : a.s ++ tx l = tx (a.c ++ l) := by rw [s_tx, tx_cat]
@[simp] theorem cat_s {a : Wd} {l : List Nat} : tx l ++ a.s = tx (l ++ a.c) := by rw [s_tx, tx_cat]
@[simp] theorem l_til : (Str.ofString "~") = tx [126] := lit_eq (by decide +kernel)
@[simp] theorem l_par : (Str.ofString "(") = tx [40] := lit_eq (by decide +kernel)
@[simp] theorem l_rap : (Str.ofString ")") = tx [41] := lit_eq (by decide +kernel)
@[simp] theorem l_spc : (Str.ofString " ") = tx [32] := lit_eq (by decide +kernel)
@[simp] theorem l_bar : (Str.ofString "|") = tx [124] := lit_eq (by decide +kernel)
@[simp] theorem l_amp : (Str.ofString "&") = tx [38] := lit_eq (by decide +kernel)
@[simp] theorem l_dash : (Str.ofString "-") = tx [45] := lit_eq (by decide +kernel)
@[simp] theorem l_bar3 : (Str.ofString " | ") = tx [32, 124, 32] := lit_eq (by decide +kernel)
@[simp] theorem l_amp3 : (Str.ofString " & ") = tx [32, 38, 32] := lit_eq (by decide +kernel)
@[simp] theorem l_dash3 : (Str.ofString " - ") = tx [32, 45, 32] := lit_eq (by decide +kernel)
theorem txt_b (b : B) (f g : Form) : txt (.bin b f g) = 40 :: (txt f ++ 32 :: b.sign :: 32 :: (txt g ++ [41])) := rfl
section
variable {S : Store}
theorem node_text_ok : ∀ (f : Form) (n : Nat), dep f ≤ n → (txt f).length ≤ lim → G_node_text n [toW f] S = .ok (.str (tx (txt f))) S
  | f, 0, hd, _ => by have := dep_pos f; omega
  | .all, n + 1, _, hl => by simp [G_node_text, runB_eq, sh_node_text, startW, toW, txt]
  | .none, n + 1, _, hl => by simp [G_node_text, runB_eq, sh_node_text, startW, toW, txt]
  | .name x, n + 1, _, hl => by simp [G_node_text, runB_eq, sh_node_text, startW, toW, txt]
  | .un u f, n + 1, hd, hl => by
    have ih := node_text_ok f n (by simp [dep] at hd; omega) (by cases u <;> simp [txt] at hl <;> omega)
    have hlim : lim = 16777216 := rfl
    cases u <;> simp [G_node_text, runB_eq, sh_node_text, startW, toW, txt, U.w, ih, words_eq, Wd.c] at hl ⊢
    all_goals (repeat (first | rw [if_pos (by omega)] | simp))
  | .bin b f g, n + 1, hd, hl => by
    have hlim : lim = 16777216 := rfl
    rw [txt_b] at hl
    simp at hl
    have ih := node_text_ok f n (by simp [dep] at hd; omega) (by omega)
    have ih' := node_text_ok g n (by simp [dep] at hd; omega) (by omega)
    cases b <;> simp [G_node_text, runB_eq, sh_node_text, startW, toW, txt, B.w, B.sign, ih, ih', words_eq, c_SHOWN, List.lookup] at hl ⊢
    all_goals (repeat (first | rw [if_pos (by omega)] | simp [ih']))
/-! ### cores -/
noncomputable def inv : Form → Form
  | .un .not f => f
  | f => .un .not f
noncomputable def kids : Form → List Form
  | .un _ f => [f]
  | .bin _ f g => [f, g]
  | _ => []
theorem inner_ok (f : Form) : G_inner_nodes [toW f] S = .ok (.tup ((kids f).map toW)) S := by
  cases f with
  | un u f => cases u <;> simp [G_inner_nodes, runB_eq, sh_inner_nodes, startW, toW, kids, U.w, cutW, HT.sIx]
  | bin b f g => cases b <;> simp [G_inner_nodes, runB_eq, sh_inner_nodes, startW, toW, kids, B.w, cutW, HT.sIx]
  | _ => simp [G_inner_nodes, runB_eq, sh_inner_nodes, startW, toW, kids]
/-! ### terms -/
noncomputable def termW (f : Form) : W := .ins "Term" ["node", "deep", "part_count"] [toW f, .int (dep f), .int (prt f)]
/-- small enough -/
noncomputable def Fits (f : Form) : Prop := dep f ≤ 40 ∧ prt f ≤ 2000
theorem ne1 : (Str.ofString "deep" == Str.ofString "node") = false := by decide +kernel
theorem ne2 : (Str.ofString "part_count" == Str.ofString "node") = false := by decide +kernel
theorem ne3 : (Str.ofString "part_count" == Str.ofString "deep") = false := by decide +kernel
@[simp] theorem fld_node {f : Form} : gFld "Term" "node" (termW f) S = .ok (toW f) S := by
  simp [termW, List.lookup]
@[simp] theorem fld_deep {f : Form} : gFld "Term" "deep" (termW f) S = .ok (.int (dep f)) S := by
  simp [termW, List.lookup, ne1]
@[simp] theorem fld_prt {f : Form} : gFld "Term" "part_count" (termW f) S = .ok (.int (prt f)) S := by
  simp [termW, List.lookup, ne2, ne3]
@[simp] theorem isIns_term {f : Form} : isIns "Term" (termW f) = true := by simp [termW]
@[simp] theorem isStr_term {f : Form} : isStr (termW f) = false := rfl
theorem methK_term {f : Form} {m : Str} {g : Fn} {mr : SM (List W)} {s : Env'} (h : (["node", "deep", "part_count"] : List Str).contains m = false) : methK "Term" m g mr s (termW f) S = (mr s S).bind fun us S2 => g (termW f :: us) S2 := by
  unfold termW
  rw [methK_ins, if_pos ⟨rfl, h⟩]
theorem make_term {f : Form} : gMake "Term" ["node", "deep", "part_count"] [toW f, .int (dep f), .int (prt f)] S = .ok (termW f) S := by simp [termW]
theorem isi_term (f : Form) : gIsi (ktC "Term") [termW f, .gl "Term"] S = .ok (.bl true) S := by
  simp [gIsi, gIsi1, termW, tyOf, isCls, ktC]
theorem isi_str' (x : Str) : gIsi (ktC "Term") [.str x, .gl "Term"] S = .ok (.bl false) S := by
  simp [gIsi, gIsi1, tyOf, isCls, ktC]
theorem of_term (f : Form) : G_Term_of [termW f] S = .ok (termW f) S := by
  have h := isi_term (S := S) f
  simp [-gMake_eq, G_Term_of, runB_eq, sh_Term_of, startW, h, truW, make_term]
theorem of_name {x : List Nat} (h : nameL x = true) (h6 : x.length ≤ lim) : G_Term_of [.str (tx x)] S = .ok (termW (.name x)) S := by
  have h1 := isi_str' (S := S) (tx x)
  have h2 := is_name_tx (S := S) h6
  rw [h] at h2
  simp [G_Term_of, runB_eq, sh_Term_of, startW, h1, h2, truW, termW, toW, dep, prt]
theorem whole_ok : G_Term_whole [] S = .ok (termW .all) S := by
  simp [G_Term_whole, runB_eq, sh_Term_whole, startW, termW, toW, dep, prt]
theorem nothing_ok : G_Term_nothing [] S = .ok (termW .none) S := by
  simp [G_Term_nothing, runB_eq, sh_Term_nothing, startW, termW, toW, dep, prt]
theorem need_ok {i j : Int} (hi : i ≤ 40) (hj : j ≤ 2000) : G_need_size [.int i, .int j] S = .ok .non S := by
  have h1 : ¬ 40 < i := by omega
  have h2 : ¬ 2000 < j := by omega
  simp [G_need_size, runB_eq, sh_need_size, startW, c_MOST_DEEP, c_MOST_PARTS, h1, h2]
theorem joined1 (u : U) (f : Form) (hd : dep f + 1 ≤ 40) (hp : prt f + 1 ≤ 2000) : G_joined [.str u.w.s, .tup [termW f]] S = .ok (termW (.un u f)) S := by
  have h0 := of_term (S := S) f
  have hn := need_ok (S := S) (i := 1 + (dep f : Int)) (j := 1 + (prt f : Int)) (by omega) (by omega)
  have hz : (0 : Nat) < lim := by decide
  have e1 : (1 + (dep f : Int)) = ((dep (.un u f) : Nat) : Int) := by simp [dep]; omega
  have e2 : (1 + (prt f : Int)) = ((prt (.un u f) : Nat) : Int) := by simp [prt]; omega
  have e3 : W.tup [.str u.w.s, toW f] = toW (.un u f) := rfl
  rw [e1, e2] at hn
  simp [-gMake_eq, G_joined, runB_eq, sh_joined, startW, h0, wipeW, hz, gMax, gSum, intsW, e1, e2, hn, e3, make_term]
/-- what may stand as an operand: a term, or a name -/
inductive Opd : Form → W → Prop where
  | term (f : Form) : Opd f (termW f)
  | name {x : List Nat} (h : nameL x = true) (h6 : x.length ≤ lim) : Opd (.name x) (.str (tx x))
theorem Opd.of {f : Form} {w : W} (h : Opd f w) : G_Term_of [w] S = .ok (termW f) S := by
  cases h with
  | term => exact of_term f
  | name h h6 => exact of_name h h6
theorem joined2 (b : B) (f g : Form) {w1 w2 : W} (o1 : Opd f w1) (o2 : Opd g w2) (hd : dep (.bin b f g) ≤ 40) (hp : prt (.bin b f g) ≤ 2000) : G_joined [.str b.w.s, .tup [w1, w2]] S = .ok (termW (.bin b f g)) S := by
  have h0 := o1.of (S := S)
  have h1 := o2.of (S := S)
  have hn := need_ok (S := S) (i := (dep (.bin b f g) : Int)) (j := (prt (.bin b f g) : Int)) (by omega) (by omega)
  have hz : (0 : Nat) < lim := by decide
  have hz1 : (1 : Nat) < lim := by decide
  have e1 : (1 + max (dep f : Int) (dep g : Int)) = ((dep (.bin b f g) : Nat) : Int) := by simp [dep]; omega
  have e2 : (1 + ((prt f : Int) + (prt g : Int))) = ((prt (.bin b f g) : Nat) : Int) := by simp [prt]; omega
  have e3 : W.tup [.str b.w.s, toW f, toW g] = toW (.bin b f g) := rfl
  simp [-gMake_eq, G_joined, runB_eq, sh_joined, startW, h0, h1, wipeW, hz, hz1, gMax, gSum, intsW, e1, e2, hn, e3, make_term]
noncomputable def opG : B → Fn
  | .or => G_Term___or__ | .and => G_Term___and__ | .less => G_Term___sub__
noncomputable def opR : B → Fn
  | .or => G_Term___ror__ | .and => G_Term___rand__ | .less => G_Term___rsub__
theorem opr_ok {b : B} {f g : Form} {w : W} (o : Opd f w) (h : Fits (.bin b f g)) : opR b [termW g, w] S = .ok (termW (.bin b f g)) S := by
  have := joined2 (S := S) b f g o (.term g) h.1 h.2
  cases b <;> simp [B.w] at this <;> simp [opR, G_Term___ror__, sh_Term___ror__, G_Term___rand__, sh_Term___rand__, G_Term___rsub__, sh_Term___rsub__, runB_eq, startW, this]
theorem text_ok {f : Form} (hd : dep f ≤ 24) (hl : (txt f).length ≤ lim) : G_Term_text [termW f] S = .ok (.str (tx (txt f))) S := by
  simp [G_Term_text, runB_eq, sh_Term_text, startW, node_text_ok f 24 hd hl]
/-! ### the law's own -/
@[simp] theorem keyW_s {a : Wd} : keyW (.str a.s) = some (.inr a.s) := rfl
theorem disp_b (b : B) : (match gDisp [(.str Wd.or.s, .str (tx [32, 124, 32])), (.str Wd.and.s, .str (tx [32, 38, 32])), (.str Wd.less.s, .str (tx [32, 45, 32]))] S with
    | .ok d _ => gDGet d (.str b.w.s) S
    | _ => .bad) = .ok (.str (tx [32, b.sign, 32])) S := by
  cases b <;> simp [gDisp, kwsOf, gDGet, mergeW, putW, valW, B.w, B.sign]
theorem disp_ex : ∃ d, gDisp [(.str Wd.or.s, .str (tx [32, 124, 32])), (.str Wd.and.s, .str (tx [32, 38, 32])), (.str Wd.less.s, .str (tx [32, 45, 32]))] S = .ok d S ∧ ∀ b : B, gDGet d (.str b.w.s) S = .ok (.str (tx [32, b.sign, 32])) S := by
  have h := disp_b (S := S)
  cases e : gDisp [(.str Wd.or.s, .str (tx [32, 124, 32])), (.str Wd.and.s, .str (tx [32, 38, 32])), (.str Wd.less.s, .str (tx [32, 45, 32]))] S with
  | ok d T =>
    rw [e] at h
    have : T = S := by
      simp [gDisp, kwsOf] at e
      exact e.2.symm
    subst this
    exact ⟨d, rfl, h⟩
  | exc c ns ws T => rw [e] at h; have := h .or; cases this
  | bad => rw [e] at h; have := h .or; cases this
theorem law_text_ok : ∀ (f : Form) (n : Nat), dep f ≤ n → (txt f).length ≤ lim → G__law_text n [toW f] S = .ok (.str (tx (txt f))) S
  | f, 0, hd, _ => by have := dep_pos f; omega
  | .all, n + 1, _, hl => by simp [G__law_text, runB_eq, sh__law_text, startW, toW, txt]
  | .none, n + 1, _, hl => by simp [G__law_text, runB_eq, sh__law_text, startW, toW, txt]
  | .name x, n + 1, _, hl => by simp [G__law_text, runB_eq, sh__law_text, startW, toW, txt]
  | .un u f, n + 1, hd, hl => by
    have ih := law_text_ok f n (by simp [dep] at hd; omega) (by cases u <;> simp [txt] at hl <;> omega)
    have hlim : lim = 16777216 := rfl
    cases u <;> simp [G__law_text, runB_eq, sh__law_text, startW, toW, txt, U.w, ih, Wd.c] at hl ⊢
    all_goals (repeat (first | rw [if_pos (by omega)] | simp))
  | .bin b f g, n + 1, hd, hl => by
    have hlim : lim = 16777216 := rfl
    rw [txt_b] at hl
    simp at hl
    have ih := law_text_ok f n (by simp [dep] at hd; omega) (by omega)
    have ih' := law_text_ok g n (by simp [dep] at hd; omega) (by omega)
    obtain ⟨d, hd1, hd2⟩ := disp_ex (S := S)
    have hb := hd2 b
    cases b <;> simp [B.w] at hb <;> simp [G__law_text, runB_eq, sh__law_text, startW, toW, txt, B.w, B.sign, ih, ih', hd1, hb] at hl ⊢
    all_goals (repeat (first | rw [if_pos (by omega)] | simp [ih', hd1, hb, B.sign]))
end
end LTm
end
section
set_option maxRecDepth 100000
set_option maxHeartbeats 4000000
namespace LTm
open PySem PySem.Spec L2 RL LC
open PyProof.Rows hiding St
section
variable {S : Store} {l : Nat} {b : Bag}
theorem toDs_strs : ∀ ns : List (List Nat), toDs (ns.map fun a => W.str (tx a)) = some (ns.map fun a => PyData.str (tx a))
  | [] => rfl
  | a :: r => by simp [toDs, toD, toDs_strs r]
theorem strOk_name {a : List Nat} (h : nameL a = true) : PyData.strOk (tx a) = true := by
  have hl : ∀ c, c ∈ lettersL → c < 0x110000 := by decide +kernel
  simp only [nameL, Bool.and_eq_true, List.all_eq_true, decide_eq_true_eq] at h
  unfold PyData.strOk
  rw [Array.all_eq_true']
  intro c hc
  have : c ∈ a := by simpa [tx] using hc
  exact decide_eq_true (hl c (h.2 c this))
theorem can_strs : ∀ ns : List (List Nat), (∀ x ∈ ns, nameL x = true) → PyData.canLayAll0 (ns.map fun a => PyData.str (tx a)) = true ∧ PyData.depthAll (ns.map fun a => PyData.str (tx a)) = 0
  | [], _ => ⟨rfl, rfl⟩
  | a :: r, h => by
    have := can_strs r fun x m => h x (List.mem_cons_of_mem _ m)
    simp [PyData.canLayAll0, PyData.depthAll, PyData.canLay0, PyData.depth, this.1, this.2, strOk_name (h a List.mem_cons_self)]
theorem shaped_strs (ns : List (List Nat)) (h : ∀ x ∈ ns, nameL x = true) : SeqAt.shaped (.list (ns.map fun a => PyData.str (tx a))) = true := by
  have := can_strs ns h
  simp [SeqAt.shaped, PyData.canLay0, PyData.depth, this.1, this.2]
theorem eq_nil {a : List Nat} {r : List (List Nat)} (h : ∀ x ∈ a :: r, nameL x = true) : gEq false (.lst ((a :: r).map fun a => W.str (tx a))) (.lst []) S = .ok (.bl false) S := by
  rw [gEq_deep ⟨fun _ _ z => (by cases z), fun _ _ z => (by cases z), fun _ _ z => (by cases z)⟩]
  have e1 : toDT S (.lst ((a :: r).map fun a => W.str (tx a))) = some (.list ((a :: r).map fun a => PyData.str (tx a))) := by
    show (toDs _).map _ = _
    rw [toDs_strs]; rfl
  have e2 : toDT S (.lst []) = some (.list []) := rfl
  rw [e1, e2]
  dsimp only
  rw [if_pos ⟨shaped_strs _ h, by decide⟩]
  simp [PyData.eqv, PyData.eqvAll]
/-- a leaf: all, none, or one of the names -/
theorem ev_leaf {Q : W → Store → Prop} {nms : List (List Nat)} (hne : nms ≠ []) (hnm : ∀ x ∈ nms, nameL x = true) (hsz : nms.length < 1073741824) (h : S[l]? = some b.ob) (hb : b.Ok) (k : ∀ f b', dep f = 1 → (∀ x, Sub (.name x) f → x ∈ nms) → prt f = 1 → Bag.Ok b' → Q (toW f) (S.set l b'.ob)) :
    Ev (G__law_leaf [.ref l, .lst (nms.map fun a => .str (tx a))] S) Q := by
  have hl := get_len h
  have get : ∀ b', (S.set l (Bag.ob b'))[l]? = some b'.ob := fun b' => List.getElem?_set_self hl
  cases nms with
  | nil => exact absurd rfl hne
  | cons a r =>
    have e0 : ∀ T, gEq false (.lst ((a :: r).map fun a => W.str (tx a))) (.lst []) T = .ok (.bl false) T := fun T => eq_nil hnm
    generalize hw : (W.lst ((a :: r).map fun a => W.str (tx a))) = w at e0 ⊢
    simp [G__law_leaf, runB_eq, sh__law_leaf, startW, e0]
    refine ev_draw h hb (by decide) (by decide) fun i b1 hi hb1 => ?_
    by_cases hz : (i : Int) = 0
    · simp [hz]
      refine ev_one (ws := [toW .all, toW .none]) (.inl rfl) (get b1) hb1 (by simp) (by decide) fun u b2 hu hb2 => ?_
      rw [List.set_set]
      simp at hu
      rcases hu with rfl | rfl
      · exact k .all b2 rfl (fun x h => by cases h) rfl hb2
      · exact k .none b2 rfl (fun x h => by cases h) rfl hb2
    · have hz' : i ≠ 0 := by omega
      simp [hz']
      subst hw
      refine ev_one (ws := (a :: r).map fun a => W.str (tx a)) (.inl rfl) (get b1) hb1 (by simp) (by rw [List.length_map]; exact hsz) fun u b2 hu hb2 => ?_
      rw [List.set_set]
      obtain ⟨x, hx, rfl⟩ := List.mem_map.mp hu
      exact k (.name x) b2 rfl (fun y h => by cases h; exact hx) rfl hb2
/-- a drawn form -/
theorem ev_form {nms : List (List Nat)} (hne : nms ≠ []) (hnm : ∀ x ∈ nms, nameL x = true) (hsz : nms.length < 1073741824) : ∀ (n d : Nat) (S : Store) (b : Bag) (Q : W → Store → Prop), 1 ≤ n → d ≤ n → S[l]? = some b.ob → b.Ok →
    (∀ f b', dep f ≤ max d 1 → (∀ x, Sub (.name x) f → x ∈ nms) → Bag.Ok b' → Q (toW f) (S.set l b'.ob)) → Ev (G__law_form n [.ref l, .lst (nms.map fun a => .str (tx a)), .int d] S) Q
  | 0, _, _, _, _, h0, _, _, _, _ => by omega
  | n + 1, d, S, b, Q, h0, hd, h, hb, k => by
    have hl := get_len h
    have get : ∀ b', (S.set l (Bag.ob b'))[l]? = some b'.ob := fun b' => List.getElem?_set_self hl
    generalize hw : (W.lst (nms.map fun a => W.str (tx a))) = w
    simp [G__law_form, runB_eq, sh__law_form, startW]
    refine ev_draw h hb (by decide) (by decide) fun i b1 hi hb1 => ?_
    by_cases hleaf : (d : Int) < 2 ∨ i = 0
    · have leaf : Ev (G__law_leaf [.ref l, w] (S.set l b1.ob)) Q := by
        subst hw
        refine ev_leaf hne hnm hsz (get b1) hb1 fun f b2 h1 h2 _ hb2 => ?_
        rw [List.set_set]
        exact k f b2 (by omega) h2 hb2
      rcases hleaf with hlt | hz
      · simp [hlt]
        exact leaf
      · subst hz
        by_cases hlt : (d : Int) < 2
        · simp [hlt]; exact leaf
        · simp [hlt]; exact leaf
    · rw [not_or] at hleaf
      simp [hleaf.1, hleaf.2]
      have e1 : (d : Int) - 1 = ((d - 1 : Nat) : Int) := by omega
      rw [e1]
      subst hw
      refine ev_form hne hnm hsz n (d - 1) _ b1 _ (by omega) (by omega) (get b1) hb1 fun f b2 hf1 hf2 hb2 => ?_
      have hi9 : i < 9 := by omega
      have hdd : max (d - 1) 1 + 1 ≤ max d 1 := by omega
      have one : ∀ u : U, Q (toW (.un u f)) (S.set l b2.ob) := fun u => k (.un u f) b2 (by simp only [dep]; omega) (fun x h => by cases h with | un h => exact hf2 x h) hb2
      have two : ∀ (o : B), Ev (G__law_form n [.ref l, .lst (nms.map fun a => .str (tx a)), .int ((d - 1 : Nat) : Int)] (S.set l b2.ob)) fun w T => Q (.tup [.str o.w.s, toW f, w]) T := fun o => by
        refine ev_form hne hnm hsz n (d - 1) _ b2 _ (by omega) (by omega) (List.getElem?_set_self hl) hb2 fun g b3 hg1 hg2 hb3 => ?_
        rw [List.set_set]
        exact k (.bin o f g) b3 (by simp only [dep]; omega) (fun x h => by
          cases h with
          | left h => exact hf2 x h
          | right h => exact hg2 x h) hb3
      rw [List.set_set]
      match i, hi9, hleaf.2 with
      | 1, _, _ => simp; exact one .not
      | 2, _, _ => simp; exact one .closed
      | 3, _, _ => simp; exact one .opn
      | 4, _, _ => simp; exact one .rim
      | 5, _, _ => simp [e1]; exact two .or
      | 6, _, _ => simp [e1]; exact two .and
      | 7, _, _ => simp [e1]; exact two .less
      | 8, _, _ => simp [e1]; exact two .and
end
end LTm
end
section
set_option maxRecDepth 100000
set_option maxHeartbeats 4000000
namespace LTm
open PySem PySem.Spec L2 RL LC OrdX
open PyProof.Rows hiding St
/-! ### dicts whose keys are texts -/
theorem no_iff : ∀ {ws : List W}, noClos ws = true ↔ ∀ w ∈ ws, noClo w = true
  | [] => ⟨fun _ _ m => (by cases m), fun _ => rfl⟩
  | w :: r => by
    have ih := no_iff (ws := r)
    constructor
    · intro h
      have h : (noClo w && noClos r) = true := h
      rw [Bool.and_eq_true] at h
      intro u m
      rcases List.mem_cons.mp m with rfl | m
      · exact h.1
      · exact ih.mp h.2 u m
    · intro h
      show (noClo w && noClos r) = true
      rw [h w List.mem_cons_self, ih.mpr fun u m => h u (List.mem_cons_of_mem _ m)]; rfl
structure Ks (d : KW) (A : List Str) : Prop where
  nd : (d.map (·.1)).Nodup
  mem : ∀ k, k ∈ d.map (·.1) ↔ ∃ x, x ∈ A ∧ k = Sum.inr x
  len : d.length ≤ A.length
  no : noClos (d.map (·.2)) = true
theorem Ks.nil : Ks [] [] := ⟨List.nodup_nil, fun k => by simp, Nat.le_refl _, rfl⟩
theorem map_repl (d : KW) (k : Key) (w : W) : (d.map fun kv => if kv.1 = k then (kv.1, w) else kv).map (·.1) = d.map (·.1) := by
  rw [List.map_map]
  refine List.map_congr_left fun kv _ => ?_
  simp only [Function.comp]
  split <;> rfl
theorem Ks.put {d : KW} {A : List Str} (h : Ks d A) (x : Str) (w : W) (hw : noClo w = true := by rfl) : Ks (putW d (.inr x) w) (x :: A) := by
  have hno : noClos ((putW d (.inr x) w).map (·.2)) = true := by
    rw [no_iff]
    have ho := no_iff.mp h.no
    intro u hu
    obtain ⟨kv, hm, rfl⟩ := List.mem_map.mp hu
    unfold putW at hm
    split at hm
    · obtain ⟨kv', hm', rfl⟩ := List.mem_map.mp hm
      split
      · exact hw
      · exact ho _ (List.mem_map.mpr ⟨kv', hm', rfl⟩)
    · rcases List.mem_append.mp hm with hm | hm
      · exact ho _ (List.mem_map.mpr ⟨kv, hm, rfl⟩)
      · rw [List.mem_singleton.mp hm]; exact hw
  revert hno
  unfold putW
  split
  · rename_i hz
    rw [List.any_eq_true] at hz
    obtain ⟨kv, hm, hk⟩ := hz
    have hx : (Sum.inr x : Key) ∈ d.map (·.1) := List.mem_map.mpr ⟨kv, hm, of_decide_eq_true hk⟩
    have hxA : x ∈ A := by
      obtain ⟨y, hy, e⟩ := (h.mem _).mp hx
      cases e; exact hy
    intro hno
    refine ⟨by rw [map_repl]; exact h.nd, fun k => ?_, by rw [List.length_map, List.length_cons]; exact Nat.le_succ_of_le h.len, hno⟩
    rw [map_repl, h.mem]
    exact ⟨fun ⟨y, hy, e⟩ => ⟨y, List.mem_cons_of_mem _ hy, e⟩, fun ⟨y, hy, e⟩ => by
      rcases List.mem_cons.mp hy with rfl | hy
      · exact ⟨_, hxA, e⟩
      · exact ⟨y, hy, e⟩⟩
  · rename_i hz
    have hx : (Sum.inr x : Key) ∉ d.map (·.1) := fun m => by
      obtain ⟨kv, hm, e⟩ := List.mem_map.mp m
      exact hz (List.any_eq_true.mpr ⟨kv, hm, decide_eq_true e⟩)
    intro hno
    refine ⟨?_, fun k => ?_, by rw [List.length_append, List.length_cons]; exact Nat.add_le_add_right h.len 1, hno⟩
    · rw [List.map_append, List.nodup_append]
      exact ⟨h.nd, by simp, fun a ha b hb => by
        have : b = Sum.inr x := by simpa using hb
        subst this
        exact fun e => hx (e ▸ ha)⟩
    · rw [List.map_append, List.mem_append, h.mem]
      constructor
      · rintro (⟨y, hy, e⟩ | hk)
        · exact ⟨y, List.mem_cons_of_mem _ hy, e⟩
        · exact ⟨x, List.mem_cons_self, by simpa using hk⟩
      · rintro ⟨y, hy, e⟩
        rcases List.mem_cons.mp hy with rfl | hy
        · exact .inr (by simpa using e)
        · exact .inl ⟨y, hy, e⟩
theorem Ks.of {d : KW} {A B : List Str} (h : Ks d A) (e : ∀ x, x ∈ A ↔ x ∈ B) (hl : A.length ≤ B.length) : Ks d B :=
  ⟨h.nd, fun k => by rw [h.mem]; exact ⟨fun ⟨x, hx, q⟩ => ⟨x, (e x).mp hx, q⟩, fun ⟨x, hx, q⟩ => ⟨x, (e x).mpr hx, q⟩⟩, Nat.le_trans h.len hl, h.no⟩
theorem Ks.merge_aux : ∀ (e : KW) {d : KW} {A B : List Str}, noClos (e.map (·.2)) = true → Ks d A → (e.map (·.1)).length ≤ B.length → (∀ k, k ∈ e.map (·.1) → ∃ x, x ∈ B ∧ k = Sum.inr x) → ∃ C : List Str, Ks (mergeW d e) C ∧ (∀ x, x ∈ C ↔ x ∈ A ∨ (Sum.inr x : Key) ∈ e.map (·.1)) ∧ C.length = A.length + e.length
  | [], d, A, B, _, h, _, _ => ⟨A, h, fun x => by simp, by simp⟩
  | (k, w) :: e, d, A, B, hn, h, hl, hB => by
    have hn1 := no_iff.mp hn
    obtain ⟨x, hx, ek⟩ := hB k (by simp)
    subst ek
    obtain ⟨C, h1, h2, h3⟩ := Ks.merge_aux e (B := (x :: B)) (no_iff.mpr fun u m => hn1 u (List.mem_cons_of_mem _ m)) (h.put x w (hn1 w List.mem_cons_self)) (by simp at hl ⊢; omega) fun k m => by
      obtain ⟨y, hy, e⟩ := hB k (List.mem_cons_of_mem _ m)
      exact ⟨y, List.mem_cons_of_mem _ hy, e⟩
    refine ⟨C, h1, fun y => ?_, by rw [h3]; simp; omega⟩
    rw [h2, List.mem_cons, List.map_cons, List.mem_cons]
    constructor
    · rintro ((rfl | h) | h)
      · exact .inr (.inl rfl)
      · exact .inl h
      · exact .inr (.inr h)
    · rintro (h | h | h)
      · exact .inl (.inr h)
      · exact .inl (.inl (by cases h; rfl))
      · exact .inr h
theorem Ks.merge {d e : KW} {A B : List Str} (h : Ks d A) (h' : Ks e B) : Ks (mergeW d e) (A ++ B) := by
  obtain ⟨C, h1, h2, h3⟩ := Ks.merge_aux e (B := B) h'.no h (by rw [List.length_map]; exact h'.len) fun k m => (h'.mem k).mp m
  refine h1.of (fun x => ?_) (by rw [h3, List.length_append]; exact Nat.add_le_add_left h'.len _)
  rw [h2, List.mem_append, h'.mem]
  exact or_congr Iff.rfl ⟨fun ⟨y, hy, e⟩ => (by cases e; exact hy), fun hx => ⟨x, hx, rfl⟩⟩
/-- its keys, as texts -/
theorem Ks.keys {d : KW} {A : List Str} (h : Ks d A) : ∃ xs : List Str, d.map (·.1) = xs.map Sum.inr ∧ xs.Nodup ∧ (∀ x, x ∈ xs ↔ x ∈ A) ∧ xs.length ≤ A.length := by
  have : ∀ l : List Key, (∀ k ∈ l, ∃ x : Str, k = Sum.inr x) → ∃ xs : List Str, l = xs.map Sum.inr := by
    intro l
    induction l with
    | nil => exact fun _ => ⟨[], rfl⟩
    | cons k r ih =>
      intro h
      obtain ⟨x, rfl⟩ := h k List.mem_cons_self
      obtain ⟨xs, rfl⟩ := ih fun k m => h k (List.mem_cons_of_mem _ m)
      exact ⟨x :: xs, rfl⟩
  obtain ⟨xs, e⟩ := this (d.map (·.1)) fun k m => by obtain ⟨x, _, e⟩ := (h.mem k).mp m; exact ⟨x, e⟩
  have nd : xs.Nodup := by
    have := h.nd
    rw [e] at this
    exact (List.pairwise_map.mp this).imp fun hab e => hab (by rw [e])
  refine ⟨xs, e, nd, fun x => ?_, by have := congrArg List.length e; simp at this; rw [← this]; exact h.len⟩
  have := h.mem (Sum.inr x)
  rw [e] at this
  constructor
  · intro m
    obtain ⟨y, hy, q⟩ := this.mp (List.mem_map.mpr ⟨x, m, rfl⟩)
    cases q; exact hy
  · intro m
    obtain ⟨y, hy, q⟩ := List.mem_map.mp (this.mpr ⟨x, m, rfl⟩)
    cases q; exact hy
/-- sorted, they are told by their set alone -/
theorem srt_usrt {xs A : List Str} (nd : xs.Nodup) (h : ∀ x, x ∈ xs ↔ x ∈ A) : srt ltS xs = usrt ltS A := by
  refine usrt_eq totS (fun x => ((srt_perm xs).mem_iff).trans (h x)) ?_
  have p := srt_pw totS xs
  have nd' : (srt ltS xs).Nodup := (srt_perm xs).nodup_iff.mpr nd
  refine (p.and nd').imp fun {a b} hab => ?_
  rcases totS.tri a b hab.2 with k | k
  · exact k
  · rw [hab.1] at k; cases k
/-! ### the closings of a core -/
/-! ### how large they are -/
theorem txt_un (u : U) (f : Form) : (txt (.un u f)).length ≤ (txt f).length + 8 := by
  cases u <;> simp [txt, U.w, Wd.c]
theorem txt_bin (b : B) (f g : Form) : (txt (.bin b f g)).length = (txt f).length + (txt g).length + 5 := by
  simp [txt]; omega
theorem txt_le : ∀ f : Form, (∀ x, Sub (.name x) f → x.length ≤ 6) → (txt f).length + 25 ≤ 16 * 2 ^ dep f
  | .all, _ => by simp [dep, txt, Wd.c]
  | .none, _ => by simp [dep, txt, Wd.c]
  | .name x, h => by have := h x .self; simp [dep, txt]; omega
  | .un u f, hn => by
    have h := txt_le f fun x m => hn x (.un m)
    have hp : 2 ^ (dep f + 1) = 2 * 2 ^ dep f := by rw [Nat.pow_succ, Nat.mul_comm]
    have h4 := txt_un u f
    simp only [dep, hp]
    omega
  | .bin b f g, hn => by
    have h := txt_le f fun x m => hn x (.left m)
    have h' := txt_le g fun x m => hn x (.right m)
    have h1 : 2 ^ dep f ≤ 2 ^ max (dep f) (dep g) := Nat.pow_le_pow_right (by decide) (by omega)
    have h2 : 2 ^ dep g ≤ 2 ^ max (dep f) (dep g) := Nat.pow_le_pow_right (by decide) (by omega)
    have hp : 2 ^ (max (dep f) (dep g) + 1) = 2 * 2 ^ max (dep f) (dep g) := by rw [Nat.pow_succ, Nat.mul_comm]
    simp only [dep, hp, txt_bin]
    omega
theorem prt_le : ∀ f : Form, prt f + 1 ≤ 2 ^ dep f
  | .all => by simp [dep, prt]
  | .none => by simp [dep, prt]
  | .name x => by simp [dep, prt]
  | .un u f => by
    have h := prt_le f
    have hp : 2 ^ (dep f + 1) = 2 * 2 ^ dep f := by rw [Nat.pow_succ, Nat.mul_comm]
    simp only [dep, hp, prt]
    omega
  | .bin b f g => by
    have h := prt_le f
    have h' := prt_le g
    have h1 : 2 ^ dep f ≤ 2 ^ max (dep f) (dep g) := Nat.pow_le_pow_right (by decide) (by omega)
    have h2 : 2 ^ dep g ≤ 2 ^ max (dep f) (dep g) := Nat.pow_le_pow_right (by decide) (by omega)
    have hp : 2 ^ (max (dep f) (dep g) + 1) = 2 * 2 ^ max (dep f) (dep g) := by rw [Nat.pow_succ, Nat.mul_comm]
    simp only [dep, hp, prt]
    omega
theorem sub_dep {g f : Form} (h : Sub g f) : dep g ≤ dep f := by
  induction h with
  | self => exact Nat.le_refl _
  | un _ ih => simp only [dep]; omega
  | left _ ih => simp only [dep]; omega
  | right _ ih => simp only [dep]; omega
theorem fits_of {f : Form} (h : dep f ≤ 10) : Fits f := by
  have := prt_le f
  have h2 : 2 ^ dep f ≤ 2 ^ 10 := Nat.pow_le_pow_right (by decide) h
  exact ⟨by omega, by omega⟩
end LTm
end
section
set_option maxRecDepth 100000
set_option maxHeartbeats 4000000
namespace LTm
open PySem PySem.Spec L2 RL LC OrdX
open PyProof.Rows hiding St
/-- what stood ahead of L stands -/
structure Keep (L : Nat) (S T : Store) : Prop where
  len : S.length ≤ T.length
  at_ : ∀ i, i < L → T[i]? = S[i]?
  no : noCloS S = true → noCloS T = true
theorem Keep.refl {L : Nat} {S : Store} : Keep L S S := ⟨Nat.le_refl _, fun _ _ => rfl, id⟩
theorem Keep.trans {L : Nat} {S T R : Store} (a : Keep L S T) (b : Keep L T R) : Keep L S R := ⟨Nat.le_trans a.len b.len, fun i hi => (b.at_ i hi).trans (a.at_ i hi), fun h => b.no (a.no h)⟩
theorem Keep.le {L M : Nat} {S T : Store} (a : Keep L S T) (h : M ≤ L) : Keep M S T := ⟨a.len, fun i hi => a.at_ i (Nat.lt_of_lt_of_le hi h), a.no⟩
theorem Keep.push {L : Nat} {S : Store} {o : Ob} (h : L ≤ S.length) (ho : noCloO o = true := by rfl) : Keep L S (S ++ [o]) := ⟨by rw [List.length_append]; omega, fun i hi => List.getElem?_append_left (by omega), fun n => by
  unfold noCloS at n ⊢
  rw [List.all_append, n, List.all_cons, ho]; rfl⟩
theorem Keep.set {L l : Nat} {S : Store} {o : Ob} (h : L ≤ l) (ho : noCloO o = true := by rfl) : Keep L S (S.set l o) := ⟨by rw [List.length_set]; exact Nat.le_refl _, fun i hi => List.getElem?_set_ne (by omega), fun n => by
  unfold noCloS at n ⊢
  rw [List.all_eq_true] at n ⊢
  intro x hx
  rcases List.mem_or_eq_of_mem_set hx with m | rfl
  · exact n x m
  · exact ho⟩
theorem no_strs : ∀ xs : List Str, noClos (xs.map W.str) = true
  | [] => rfl
  | _ :: r => no_strs r
theorem Ks.obj {d : KW} {A : List Str} (h : Ks d A) : noCloO (dicO d) = true := h.no
section
variable {S : Store}
/-- the dict so far is new -/
theorem new_dic {L : Nat} : (S ++ [dicO []])[S.length]? = some (dicO []) := by simp
theorem strsW_str (xs : List Str) : strsW (xs.map W.str) = some xs := by
  induction xs with
  | nil => rfl
  | cons x r ih => simp [strsW, ih]
end
end LTm
end
section
set_option maxRecDepth 100000
set_option maxHeartbeats 4000000
namespace LTm
open PySem PySem.Spec L2 RL LC OrdX
open PyProof.Rows hiding St
/-! ### _law_same with a list of the store on the left -/
end LTm
end
section
set_option maxRecDepth 100000
set_option maxHeartbeats 4000000
namespace LTm
open PySem PySem.Spec L2 RL LC OrdX
open PyProof.Rows hiding St
/-! ### drawn names -/
end LTm
end
section
set_option maxRecDepth 100000
set_option maxHeartbeats 4000000
/-! texts of terms, read: the plain reading -/
namespace LTm
open PySem PySem.Spec L2 RL LC
open PyProof.Rows hiding St
/-- what a reading comes to: no room, a wrong text, a form and the rest -/
inductive PR where
  | fuel | err
  | ok (f : Form) (r : List Nat)
noncomputable def PR.andThen (p : PR) (k : Form → List Nat → PR) : PR := match p with
  | .ok f r => k f r
  | .err => .err
  | .fuel => .fuel
/-- the signs that a form may begin with -/
noncomputable def cnt (r : List Nat) : Nat := r.countP fun c => decide (c = 126) || decide (c = 40)
end LTm
end
section
set_option maxRecDepth 100000
set_option maxHeartbeats 4000000
/-! what the laws of terms share: the reader, the names -/
namespace LTm
open PySem PySem.Spec L2 RL LC
open PyProof.Rows hiding St
noncomputable def sh_depth_in (G_depth_in' : Fn) : SS := (mSeq (mIf (mBT (gEq false) (mBin gIx (mVar 0) (mC (.int 0))) (mC (.str "name"))) (mRet (mDGet2 (mVar 1) (mBin gIx (mVar 0) (mC (.int 1))) (mC (.int 1)))) mSkip)
  (mRet (mBin gAdd (mC (.int 1)) (mAp (g1 gMax) (mCons (mBin gAdd (mAp gLst (mCons (mC (.int 0)) mNil)) (mLc (mItems (mAp G_inner_nodes (mCons (mVar 0) mNil))) [2] (gNm 2) mYes (mAp G_depth_in' (mCons (mVar 2) (mCons (mVar 1) mNil))))) mNil)))))
noncomputable def G_depth_in : Nat → Fn
  | 0 => fun _ _ => .bad
  | n + 1 => runB 3 (sh_depth_in (G_depth_in n))
noncomputable def sh_parts_in (G_parts_in' : Fn) : SS := (mSeq (mIf (mBT (gEq false) (mBin gIx (mVar 0) (mC (.int 0))) (mC (.str "name"))) (mRet (mDGet2 (mVar 1) (mBin gIx (mVar 0) (mC (.int 1))) (mC (.int 1)))) mSkip)
  (mRet (mBin gAdd (mC (.int 1)) (mAp (g1 gSum) (mCons (mLc (mItems (mAp G_inner_nodes (mCons (mVar 0) mNil))) [2] (gNm 2) mYes (mAp G_parts_in' (mCons (mVar 2) (mCons (mVar 1) mNil)))) mNil)))))
noncomputable def G_parts_in : Nat → Fn
  | 0 => fun _ _ => .bad
  | n + 1 => runB 3 (sh_parts_in (G_parts_in n))
noncomputable def sh_node_names (G_node_names' : Fn) : SS := (mSeq (mIf (mBT (gEq false) (mBin gIx (mVar 0) (mC (.int 0))) (mC (.str "name"))) (mRet (mDisp (mPCons (mBin gIx (mVar 0) (mC (.int 1))) (mC (.bl true)) mPNil))) mSkip)
  (mSeq (mAsg mDNewR (gNm 1))
  (mSeq (mFor (mItems (mAp G_inner_nodes (mCons (mVar 0) mNil))) (gNm 2) (mExpr (gMetD gDUpd (mVar 1) (mCons (mAp G_node_names' (mCons (mVar 2) mNil)) mNil))))
  (mRet (mVar 1)))))
noncomputable def G_node_names : Nat → Fn
  | 0 => fun _ _ => .bad
  | n + 1 => runB 3 (sh_node_names (G_node_names n))
noncomputable def sh_Term_names : SS := (mRet (mAp (g1 gSrtSR) (mCons (mAp (g1 gListD) (mCons (mAp (G_node_names 10) (mCons (mUn (gFld "Term" "node") (mVar 0)) mNil)) mNil)) mNil)))
noncomputable def G_Term_names : Fn := runB 1 sh_Term_names
noncomputable def sh_Term___str__ : SS := (mRet (mFmt (mMeth "Term" "text" G_Term_text (mVar 0) mNil)))
noncomputable def G_Term___str__ : Fn := runB 1 sh_Term___str__
noncomputable def sh_Term_depth : SS := (mRet (mUn (gFld "Term" "deep") (mVar 0)))
noncomputable def G_Term_depth : Fn := runB 1 sh_Term_depth
end LTm
end
section
set_option maxRecDepth 100000
set_option maxHeartbeats 4000000
/-! terms where Term.of refuses, and the exception goes out of a comprehension; too large terms are refused -/
namespace LTj
open PySem PySem.Spec L2 RL LC LTm
open PyProof.Rows hiding St
noncomputable def p_InvalidTerm : List Str := ["value"]
noncomputable def l_InvalidTerm : List (Str × (Str ⊕ Str)) := [("code", .inl "InvalidTerm"), ("value", .inr "value")]
noncomputable def p_TooDeep : List Str := ["limit"]
noncomputable def l_TooDeep : List (Str × (Str ⊕ Str)) := [("code", .inl "TooDeep"), ("limit", .inr "limit")]
noncomputable def p_TooMany : List Str := ["limit"]
noncomputable def l_TooMany : List (Str × (Str ⊕ Str)) := [("code", .inl "TooMany"), ("limit", .inr "limit")]
noncomputable def sh_need_size : SS := (mSeq (mIf (mBT gGt (mVar 0) (mC c_MOST_DEEP)) (mRaise (mAp (gMakeX "TooDeep" p_TooDeep l_TooDeep) (mCons (mC c_MOST_DEEP) mNil))) mSkip)
  (mIf (mBT gGt (mVar 1) (mC c_MOST_PARTS)) (mRaise (mAp (gMakeX "TooMany" p_TooMany l_TooMany) (mCons (mC c_MOST_PARTS) mNil))) mSkip))
noncomputable def G_need_size : Fn := runB 2 sh_need_size
noncomputable def sh_Term_of : SS := (mSeq (mIf (mTru (mAp (gIsi (ktC "Term")) (mCons (mVar 0) (mCons (mC (.gl "Term")) mNil)))) (mRet (mAp (gMake "Term" ["node", "deep", "part_count"]) (mCons (mUn (gFld "Term" "node") (mVar 0)) (mCons (mUn (gFld "Term" "deep") (mVar 0)) (mCons (mUn (gFld "Term" "part_count") (mVar 0)) mNil))))) mSkip)
  (mSeq (mIf (mNotT (mTru (mAp G_is_name (mCons (mVar 0) mNil)))) (mRaise (mAp (gMakeX "InvalidTerm" p_InvalidTerm l_InvalidTerm) (mCons (mVar 0) mNil))) mSkip)
  (mRet (mAp (gMake "Term" ["node", "deep", "part_count"]) (mCons (mAp gTup (mCons (mC (.str "name")) (mCons (mVar 0) mNil))) (mCons (mC (.int 1)) (mCons (mC (.int 1)) mNil)))))))
noncomputable def G_Term_of : Fn := runB 1 sh_Term_of
noncomputable def sh_joined : SS := (mSeq (mAsg (mLcX (mItems (mVar 1)) [5] (gNm 5) mYes (mAp G_Term_of (mCons (mVar 5) mNil))) (gNm 2))
  (mSeq (mPar 3 4 (mCons (mBin gAdd (mC (.int 1)) (mAp (g1 gMax) (mCons (mLc (mItems (mVar 2)) [6] (gNm 6) mYes (mUn (gFld "Term" "deep") (mVar 6))) mNil))) (mCons (mBin gAdd (mC (.int 1)) (mAp (g1 gSum) (mCons (mLc (mItems (mVar 2)) [6] (gNm 6) mYes (mUn (gFld "Term" "part_count") (mVar 6))) mNil))) mNil)))
  (mSeq (mExpr (mAp G_need_size (mCons (mVar 3) (mCons (mVar 4) mNil))))
  (mRet (mAp (gMake "Term" ["node", "deep", "part_count"]) (mCons (mAp gTup (mCons (mVar 0) (mStar (mLc (mItems (mVar 2)) [6] (gNm 6) mYes (mUn (gFld "Term" "node") (mVar 6))) mNil))) (mCons (mVar 3) (mCons (mVar 4) mNil))))))))
noncomputable def G_joined : Fn := runB 7 sh_joined
noncomputable def sh_Term___or__ : SS := (mRet (mAp (gStar 1 G_joined) (mCons (mC (.str "or")) (mCons (mVar 0) (mCons (mVar 1) mNil)))))
noncomputable def G_Term___or__ : Fn := runB 2 sh_Term___or__
noncomputable def sh_Term___ror__ : SS := (mRet (mAp (gStar 1 G_joined) (mCons (mC (.str "or")) (mCons (mVar 1) (mCons (mVar 0) mNil)))))
noncomputable def G_Term___ror__ : Fn := runB 2 sh_Term___ror__
noncomputable def sh_Term___and__ : SS := (mRet (mAp (gStar 1 G_joined) (mCons (mC (.str "and")) (mCons (mVar 0) (mCons (mVar 1) mNil)))))
noncomputable def G_Term___and__ : Fn := runB 2 sh_Term___and__
noncomputable def sh_Term___rand__ : SS := (mRet (mAp (gStar 1 G_joined) (mCons (mC (.str "and")) (mCons (mVar 1) (mCons (mVar 0) mNil)))))
noncomputable def G_Term___rand__ : Fn := runB 2 sh_Term___rand__
noncomputable def sh_Term___sub__ : SS := (mRet (mAp (gStar 1 G_joined) (mCons (mC (.str "less")) (mCons (mVar 0) (mCons (mVar 1) mNil)))))
noncomputable def G_Term___sub__ : Fn := runB 2 sh_Term___sub__
noncomputable def sh_Term___rsub__ : SS := (mRet (mAp (gStar 1 G_joined) (mCons (mC (.str "less")) (mCons (mVar 1) (mCons (mVar 0) mNil)))))
noncomputable def G_Term___rsub__ : Fn := runB 2 sh_Term___rsub__
noncomputable def sh_Term___invert__ : SS := (mRet (mAp (gStar 1 G_joined) (mCons (mC (.str "not")) (mCons (mVar 0) mNil))))
noncomputable def G_Term___invert__ : Fn := runB 1 sh_Term___invert__
noncomputable def sh_Term_closed : SS := (mRet (mAp (gStar 1 G_joined) (mCons (mC (.str "closed")) (mCons (mVar 0) mNil))))
noncomputable def G_Term_closed : Fn := runB 1 sh_Term_closed
noncomputable def sh_Term_opened : SS := (mRet (mAp (gStar 1 G_joined) (mCons (mC (.str "open")) (mCons (mVar 0) mNil))))
noncomputable def G_Term_opened : Fn := runB 1 sh_Term_opened
noncomputable def sh_Term_rim : SS := (mRet (mAp (gStar 1 G_joined) (mCons (mC (.str "rim")) (mCons (mVar 0) mNil))))
noncomputable def G_Term_rim : Fn := runB 1 sh_Term_rim
noncomputable def sh__law_term (G__law_term' : Fn) : SS := (mSeq (mIf (mBT (gIn false) (mBin gIx (mVar 0) (mC (.int 0))) (mAp gTup (mCons (mC (.str "all")) (mCons (mC (.str "none")) mNil)))) (mRet (mIfE (mBT (gEq false) (mBin gIx (mVar 0) (mC (.int 0))) (mC (.str "all"))) (mAp G_Term_whole mNil) (mAp G_Term_nothing mNil))) mSkip)
  (mSeq (mIf (mBT (gEq false) (mBin gIx (mVar 0) (mC (.int 0))) (mC (.str "name"))) (mRet (mAp G_Term_of (mCons (mBin gIx (mVar 0) (mC (.int 1))) mNil))) mSkip)
  (mSeq (mAsg (mAp G__law_term' (mCons (mBin gIx (mVar 0) (mC (.int 1))) mNil)) (gNm 1))
  (mSeq (mIf (mBT (gIn false) (mBin gIx (mVar 0) (mC (.int 0))) (mAp gTup (mCons (mC (.str "closed")) (mCons (mC (.str "open")) mNil)))) (mRet (mIfE (mBT (gEq false) (mBin gIx (mVar 0) (mC (.int 0))) (mC (.str "closed"))) (mMeth "Term" "closed" G_Term_closed (mVar 1) mNil) (mMeth "Term" "opened" G_Term_opened (mVar 1) mNil))) mSkip)
  (mSeq (mIf (mBT (gIn false) (mBin gIx (mVar 0) (mC (.int 0))) (mAp gTup (mCons (mC (.str "not")) (mCons (mC (.str "rim")) mNil)))) (mRet (mIfE (mBT (gEq false) (mBin gIx (mVar 0) (mC (.int 0))) (mC (.str "not"))) (mUn (gInv "Term" G_Term___invert__) (mVar 1)) (mMeth "Term" "rim" G_Term_rim (mVar 1) mNil))) mSkip)
  (mSeq (mAsg (mAp G__law_term' (mCons (mBin gIx (mVar 0) (mC (.int 2))) mNil)) (gNm 2))
  (mRet (mIfE (mBT (gEq false) (mBin gIx (mVar 0) (mC (.int 0))) (mC (.str "or"))) (mBin (gOwnA "Term" (fun _ _ _ => .bad) G_Term___or__ G_Term___ror__) (mVar 1) (mVar 2)) (mIfE (mBT (gEq false) (mBin gIx (mVar 0) (mC (.int 0))) (mC (.str "and"))) (mBin (gOwnA "Term" (fun _ _ _ => .bad) G_Term___and__ G_Term___rand__) (mVar 1) (mVar 2)) (mBin (gOwnA "Term" gSub G_Term___sub__ G_Term___rsub__) (mVar 1) (mVar 2)))))))))))
noncomputable def G__law_term : Nat → Fn
  | 0 => fun _ _ => .bad
  | n + 1 => runB 3 (sh__law_term (G__law_term n))
section
variable {S : Store}
theorem of_term (f : Form) : G_Term_of [termW f] S = .ok (termW f) S := by
  have h := isi_term (S := S) f
  simp [-gMake_eq, G_Term_of, runB_eq, sh_Term_of, startW, h, truW, make_term]
theorem of_name {x : List Nat} (h : nameL x = true) (h6 : x.length ≤ lim) : G_Term_of [.str (tx x)] S = .ok (termW (.name x)) S := by
  have h1 := isi_str' (S := S) (tx x)
  have h2 := is_name_tx (S := S) h6
  rw [h] at h2
  simp [G_Term_of, runB_eq, sh_Term_of, startW, h1, h2, truW, termW, toW, dep, prt]
theorem need_ok {i j : Int} (hi : i ≤ 40) (hj : j ≤ 2000) : G_need_size [.int i, .int j] S = .ok .non S := by
  have h1 : ¬ 40 < i := by omega
  have h2 : ¬ 2000 < j := by omega
  simp [G_need_size, runB_eq, sh_need_size, startW, c_MOST_DEEP, c_MOST_PARTS, h1, h2]
theorem joined1 (u : U) (f : Form) (hd : dep f + 1 ≤ 40) (hp : prt f + 1 ≤ 2000) : G_joined [.str u.w.s, .tup [termW f]] S = .ok (termW (.un u f)) S := by
  have h0 := of_term (S := S) f
  have hn := need_ok (S := S) (i := 1 + (dep f : Int)) (j := 1 + (prt f : Int)) (by omega) (by omega)
  have hz : (0 : Nat) < lim := by decide
  have e1 : (1 + (dep f : Int)) = ((dep (.un u f) : Nat) : Int) := by simp [dep]; omega
  have e2 : (1 + (prt f : Int)) = ((prt (.un u f) : Nat) : Int) := by simp [prt]; omega
  have e3 : W.tup [.str u.w.s, toW f] = toW (.un u f) := rfl
  rw [e1, e2] at hn
  simp [-gMake_eq, G_joined, runB_eq, sh_joined, startW, h0, wipeW, hz, gMax, gSum, intsW, e1, e2, hn, e3, make_term]
theorem of_opd {f : Form} {w : W} (h : Opd f w) : G_Term_of [w] S = .ok (termW f) S := by
  cases h with
  | term => exact of_term f
  | name h h6 => exact of_name h h6
theorem joined2 (b : B) (f g : Form) {w1 w2 : W} (o1 : Opd f w1) (o2 : Opd g w2) (hd : dep (.bin b f g) ≤ 40) (hp : prt (.bin b f g) ≤ 2000) : G_joined [.str b.w.s, .tup [w1, w2]] S = .ok (termW (.bin b f g)) S := by
  have h0 := of_opd (S := S) o1
  have h1 := of_opd (S := S) o2
  have hn := need_ok (S := S) (i := (dep (.bin b f g) : Int)) (j := (prt (.bin b f g) : Int)) (by omega) (by omega)
  have hz : (0 : Nat) < lim := by decide
  have hz1 : (1 : Nat) < lim := by decide
  have e1 : (1 + max (dep f : Int) (dep g : Int)) = ((dep (.bin b f g) : Nat) : Int) := by simp [dep]; omega
  have e2 : (1 + ((prt f : Int) + (prt g : Int))) = ((prt (.bin b f g) : Nat) : Int) := by simp [prt]; omega
  have e3 : W.tup [.str b.w.s, toW f, toW g] = toW (.bin b f g) := rfl
  simp [-gMake_eq, G_joined, runB_eq, sh_joined, startW, h0, h1, wipeW, hz, hz1, gMax, gSum, intsW, e1, e2, hn, e3, make_term]
theorem closed_ok {f : Form} (h : Fits (.un .closed f)) : G_Term_closed [termW f] S = .ok (termW (.un .closed f)) S := by
  have := joined1 (S := S) .closed f h.1 h.2
  simp [U.w] at this
  simp [G_Term_closed, runB_eq, sh_Term_closed, startW, this]
theorem opened_ok {f : Form} (h : Fits (.un .opn f)) : G_Term_opened [termW f] S = .ok (termW (.un .opn f)) S := by
  have := joined1 (S := S) .opn f h.1 h.2
  simp [U.w] at this
  simp [G_Term_opened, runB_eq, sh_Term_opened, startW, this]
theorem rim_ok {f : Form} (h : Fits (.un .rim f)) : G_Term_rim [termW f] S = .ok (termW (.un .rim f)) S := by
  have := joined1 (S := S) .rim f h.1 h.2
  simp [U.w] at this
  simp [G_Term_rim, runB_eq, sh_Term_rim, startW, this]
theorem not_ok {f : Form} (h : Fits (.un .not f)) : G_Term___invert__ [termW f] S = .ok (termW (.un .not f)) S := by
  have := joined1 (S := S) .not f h.1 h.2
  simp [U.w] at this
  simp [G_Term___invert__, runB_eq, sh_Term___invert__, startW, this]
noncomputable def opG : B → Fn
  | .or => G_Term___or__ | .and => G_Term___and__ | .less => G_Term___sub__
noncomputable def opR : B → Fn
  | .or => G_Term___ror__ | .and => G_Term___rand__ | .less => G_Term___rsub__
theorem op_ok {b : B} {f g : Form} {w : W} (o : Opd g w) (h : Fits (.bin b f g)) : opG b [termW f, w] S = .ok (termW (.bin b f g)) S := by
  have := joined2 (S := S) b f g (.term f) o h.1 h.2
  cases b <;> simp [B.w] at this <;> simp [opG, G_Term___or__, sh_Term___or__, G_Term___and__, sh_Term___and__, G_Term___sub__, sh_Term___sub__, runB_eq, startW, this]
theorem opr_ok {b : B} {f g : Form} {w : W} (o : Opd f w) (h : Fits (.bin b f g)) : opR b [termW g, w] S = .ok (termW (.bin b f g)) S := by
  have := joined2 (S := S) b f g o (.term g) h.1 h.2
  cases b <;> simp [B.w] at this <;> simp [opR, G_Term___ror__, sh_Term___ror__, G_Term___rand__, sh_Term___rand__, G_Term___rsub__, sh_Term___rsub__, runB_eq, startW, this]
theorem own_ok {b : B} {f g : Form} {base : W → W → Store → Res W} (h : Fits (.bin b f g)) : gOwnA "Term" base (opG b) (opR b) (termW f) (termW g) S = .ok (termW (.bin b f g)) S := by
  simp [gOwnA, op_ok (.term g) h]
theorem law_term_ok : ∀ (f : Form) (n : Nat), dep f ≤ n → (∀ g, Sub g f → Fits g) → (∀ x, Sub (.name x) f → nameL x = true ∧ x.length ≤ lim) → G__law_term n [toW f] S = .ok (termW f) S
  | f, 0, hd, _, _ => by have := dep_pos f; omega
  | .all, n + 1, _, _, _ => by simp [G__law_term, runB_eq, sh__law_term, startW, toW, whole_ok]
  | .none, n + 1, _, _, _ => by simp [G__law_term, runB_eq, sh__law_term, startW, toW, nothing_ok]
  | .name x, n + 1, _, _, hn => by
    have := hn x .self
    simp [G__law_term, runB_eq, sh__law_term, startW, toW, of_name this.1 this.2]
  | .un u f, n + 1, hd, hf, hn => by
    have ih := law_term_ok f n (by simp [dep] at hd; omega) (fun g h => hf g (.un h)) (fun x h => hn x (.un h))
    have ft := hf _ .self
    have m1 : ∀ (g : Fn) (mr : SM (List W)) (s : Env'), methK "Term" "closed" g mr s (termW f) S = (mr s S).bind fun us S2 => g (termW f :: us) S2 := fun g mr s => methK_term (by decide +kernel)
    have m2 : ∀ (g : Fn) (mr : SM (List W)) (s : Env'), methK "Term" "opened" g mr s (termW f) S = (mr s S).bind fun us S2 => g (termW f :: us) S2 := fun g mr s => methK_term (by decide +kernel)
    have m3 : ∀ (g : Fn) (mr : SM (List W)) (s : Env'), methK "Term" "rim" g mr s (termW f) S = (mr s S).bind fun us S2 => g (termW f :: us) S2 := fun g mr s => methK_term (by decide +kernel)
    simp at m1 m2 m3
    cases u <;> simp [G__law_term, runB_eq, sh__law_term, startW, toW, U.w, ih, m1, m2, m3, gInv]
    · exact by rw [not_ok ft]; rfl
    · rw [closed_ok ft]; rfl
    · rw [opened_ok ft]; rfl
    · rw [rim_ok ft]; rfl
  | .bin b f g, n + 1, hd, hf, hn => by
    have ih := law_term_ok f n (by simp [dep] at hd; omega) (fun k h => hf k (.left h)) (fun x h => hn x (.left h))
    have ih' := law_term_ok g n (by simp [dep] at hd; omega) (fun k h => hf k (.right h)) (fun x h => hn x (.right h))
    have ft := hf _ .self
    have o1 := fun base => own_ok (S := S) (base := base) ft
    cases b <;> simp [opG, opR] at o1 <;> simp [G__law_term, runB_eq, sh__law_term, startW, toW, B.w, ih, ih', o1]
end
end LTj
end
section
set_option maxRecDepth 100000
set_option maxHeartbeats 4000000
namespace Dk07
open PySem PySem.Spec L2 RL
open LC
open LTm hiding G_Term___and__ G_Term___invert__ G_Term___or__ G_Term___rand__ G_Term___ror__ G_Term___rsub__ G_Term___sub__ G_Term_closed G_Term_of G_Term_opened G_Term_rim G__law_term G_joined G_need_size joined1 joined2 need_ok of_name of_term opG opR opr_ok sh_Term___and__ sh_Term___invert__ sh_Term___or__ sh_Term___rand__ sh_Term___ror__ sh_Term___rsub__ sh_Term___sub__ sh_Term_closed sh_Term_of sh_Term_opened sh_Term_rim sh__law_term sh_joined sh_need_size
open LTj
open PyProof.Rows hiding St
noncomputable def topS (i : Nat) : Stmt := PySem.Challenge.pw_unseenmap_k07_terms_filled.main.body.getD i (.Pass ⟨0, 0, 0, 0⟩)
noncomputable def c_EMPTY : W := .str " is empty"
noncomputable def c_MIDDLES : List (Str × Str) := [("within", " within "), ("equal", " = ")]
noncomputable abbrev s_InvalidTerm : Stmt := (clsB (topS 3)).getD 0 (.Pass ⟨0, 0, 0, 0⟩)
noncomputable abbrev s_TooDeep : Stmt := (clsB (topS 5)).getD 0 (.Pass ⟨0, 0, 0, 0⟩)
noncomputable abbrev s_TooMany : Stmt := (clsB (topS 6)).getD 0 (.Pass ⟨0, 0, 0, 0⟩)
noncomputable def cs_code : List Str := ["InvalidTerm", "TooDeep", "TooMany"]
noncomputable def cs_fact_name : List Str := []
noncomputable def cs_limit : List Str := ["TooDeep", "TooMany"]
noncomputable def cs_line : List Str := []
noncomputable def cs_path : List Str := []
noncomputable def cs_sheet_name : List Str := []
noncomputable def cs_user : List Str := []
noncomputable def cs_value : List Str := ["InvalidTerm"]
noncomputable def cs_word : List Str := []
noncomputable def kx_tab : List (Str × Bool) := [(("InvalidTerm" : Str), true), (("TooDeep" : Str), true), (("TooMany" : Str), true)]
noncomputable abbrev s_Term_depth : Stmt := (clsB (topS 25)).getD 16 (.Pass ⟨0, 0, 0, 0⟩)
noncomputable abbrev s_Term_parts : Stmt := (clsB (topS 25)).getD 17 (.Pass ⟨0, 0, 0, 0⟩)
noncomputable abbrev s_is_name : Stmt := topS 18
noncomputable abbrev s_Term___init__ : Stmt := (clsB (topS 25)).getD 0 (.Pass ⟨0, 0, 0, 0⟩)
noncomputable abbrev s_Term_of : Stmt := (clsB (topS 25)).getD 1 (.Pass ⟨0, 0, 0, 0⟩)
noncomputable abbrev s_inner_nodes : Stmt := topS 20
noncomputable abbrev s_node_names : Stmt := topS 21
noncomputable abbrev s_Term_names : Stmt := (clsB (topS 25)).getD 15 (.Pass ⟨0, 0, 0, 0⟩)
noncomputable abbrev s_put_in : Stmt := topS 22
noncomputable abbrev s_depth_in : Stmt := topS 23
noncomputable abbrev s_parts_in : Stmt := topS 24
noncomputable abbrev s_need_size : Stmt := topS 26
noncomputable abbrev s_Term_replaced : Stmt := (clsB (topS 25)).getD 19 (.Pass ⟨0, 0, 0, 0⟩)
noncomputable abbrev s_Term_filled : Stmt := (clsB (topS 25)).getD 18 (.Pass ⟨0, 0, 0, 0⟩)
noncomputable abbrev s_node_text : Stmt := topS 19
noncomputable abbrev s_Term_text : Stmt := (clsB (topS 25)).getD 22 (.Pass ⟨0, 0, 0, 0⟩)
noncomputable abbrev s_Statement___init__ : Stmt := (clsB (topS 33)).getD 0 (.Pass ⟨0, 0, 0, 0⟩)
noncomputable abbrev s_Statement_replaced : Stmt := (clsB (topS 33)).getD 12 (.Pass ⟨0, 0, 0, 0⟩)
noncomputable abbrev s_Statement_filled : Stmt := (clsB (topS 33)).getD 11 (.Pass ⟨0, 0, 0, 0⟩)
noncomputable abbrev s_Term___str__ : Stmt := (clsB (topS 25)).getD 23 (.Pass ⟨0, 0, 0, 0⟩)
noncomputable abbrev s_Statement_text : Stmt := (clsB (topS 33)).getD 13 (.Pass ⟨0, 0, 0, 0⟩)
noncomputable abbrev s__law_cells : Stmt := topS 35
noncomputable abbrev s__law_draw : Stmt := topS 36
noncomputable abbrev s__law_one : Stmt := topS 37
noncomputable abbrev s__law_same : Stmt := topS 38
noncomputable abbrev s__law_leaf : Stmt := topS 42
noncomputable abbrev s__law_form : Stmt := topS 43
noncomputable abbrev s__law_text : Stmt := topS 44
noncomputable abbrev s_Term_whole : Stmt := (clsB (topS 25)).getD 2 (.Pass ⟨0, 0, 0, 0⟩)
noncomputable abbrev s_Term_nothing : Stmt := (clsB (topS 25)).getD 3 (.Pass ⟨0, 0, 0, 0⟩)
noncomputable abbrev s_joined : Stmt := topS 27
noncomputable abbrev s_Term___or__ : Stmt := (clsB (topS 25)).getD 5 (.Pass ⟨0, 0, 0, 0⟩)
noncomputable abbrev s_Term___ror__ : Stmt := (clsB (topS 25)).getD 6 (.Pass ⟨0, 0, 0, 0⟩)
noncomputable abbrev s_Term___and__ : Stmt := (clsB (topS 25)).getD 7 (.Pass ⟨0, 0, 0, 0⟩)
noncomputable abbrev s_Term___rand__ : Stmt := (clsB (topS 25)).getD 8 (.Pass ⟨0, 0, 0, 0⟩)
noncomputable abbrev s_Term___sub__ : Stmt := (clsB (topS 25)).getD 9 (.Pass ⟨0, 0, 0, 0⟩)
noncomputable abbrev s_Term___rsub__ : Stmt := (clsB (topS 25)).getD 10 (.Pass ⟨0, 0, 0, 0⟩)
noncomputable abbrev s_Term___invert__ : Stmt := (clsB (topS 25)).getD 11 (.Pass ⟨0, 0, 0, 0⟩)
noncomputable abbrev s_Term_closed : Stmt := (clsB (topS 25)).getD 12 (.Pass ⟨0, 0, 0, 0⟩)
noncomputable abbrev s_Term_opened : Stmt := (clsB (topS 25)).getD 13 (.Pass ⟨0, 0, 0, 0⟩)
noncomputable abbrev s_Term_rim : Stmt := (clsB (topS 25)).getD 14 (.Pass ⟨0, 0, 0, 0⟩)
noncomputable abbrev s__law_term : Stmt := topS 45
noncomputable abbrev s__law_saying_text : Stmt := topS 46
noncomputable abbrev s_Statement_empty : Stmt := (clsB (topS 33)).getD 1 (.Pass ⟨0, 0, 0, 0⟩)
noncomputable abbrev s_Statement_within : Stmt := (clsB (topS 33)).getD 2 (.Pass ⟨0, 0, 0, 0⟩)
noncomputable abbrev s_Statement_equal : Stmt := (clsB (topS 33)).getD 3 (.Pass ⟨0, 0, 0, 0⟩)
noncomputable abbrev s__law_statement : Stmt := topS 47
noncomputable abbrev s__law_filled : Stmt := topS 48
noncomputable abbrev s__law_size : Stmt := topS 49
noncomputable abbrev s__law_extra : Stmt := topS 40
noncomputable abbrev s__law_why : Stmt := topS 41
noncomputable abbrev s__law_whys : Stmt := topS 39
noncomputable abbrev s__law_statements_filled_so : Stmt := topS 50
noncomputable abbrev s_law : Stmt := topS 51
noncomputable def L_0 : Lm := lamOf ("_law_statements_filled_so" ++ ".<locals>." ++ "<lambda>") [] (kidAt (exprOf (stAt (defBody s__law_statements_filled_so) 4)) 0)
noncomputable def L_1 : Lm := lamOf ("_law_statements_filled_so" ++ ".<locals>." ++ "<lambda>") [0] (kidAt (exprOf (stAt (defBody s__law_statements_filled_so) 4)) 1)
noncomputable def L_2 : Lm := lamOf ("_law_statements_filled_so" ++ ".<locals>." ++ "<lambda>") [0] (kidAt (exprOf (stAt (defBody s__law_statements_filled_so) 4)) 2)
noncomputable def L_3 : Lm := lamOf ("_law_statements_filled_so" ++ ".<locals>." ++ "<lambda>") [0] (kidAt (exprOf (stAt (defBody s__law_statements_filled_so) 4)) 3)
noncomputable def L_4 : Lm := lamOf ("_law_statements_filled_so" ++ ".<locals>." ++ "<lambda>") [0] (kidAt (exprOf (stAt (defBody s__law_statements_filled_so) 4)) 4)
noncomputable def L_5 : Lm := lamOf ("_law_statements_filled_so" ++ ".<locals>." ++ "<lambda>") [0] (kidAt (exprOf (stAt (defBody s__law_statements_filled_so) 4)) 5)
noncomputable instance lams : Lams := ⟨fun j => match j with
  | 0 => L_0
  | 1 => L_1
  | 2 => L_2
  | 3 => L_3
  | 4 => L_4
  | 5 => L_5
  | _ => default⟩
noncomputable def sh_Term_parts : SS := (mRet (mUn (gFld "Term" "part_count") (mVar 0)))
noncomputable def G_Term_parts : Fn := runB 1 sh_Term_parts
noncomputable def sh_put_in (G_put_in' : Fn) : SS := (mSeq (mIf (mBT (gEq false) (mBin gIx (mVar 0) (mC (.int 0))) (mC (.str "name"))) (mRet (mDGet2 (mVar 1) (mBin gIx (mVar 0) (mC (.int 1))) (mVar 0))) mSkip)
  (mRet (mAp gTup (mCons (mBin gIx (mVar 0) (mC (.int 0))) (mStar (mLc (mItems (mAp G_inner_nodes (mCons (mVar 0) mNil))) [2] (gNm 2) mYes (mAp G_put_in' (mCons (mVar 2) (mCons (mVar 1) mNil)))) mNil)))))
noncomputable def G_put_in : Nat → Fn
  | 0 => fun _ _ => .bad
  | n + 1 => runB 3 (sh_put_in (G_put_in n))
noncomputable def sh_Term_replaced : SS := (mSeq (mAsg (mAp (G_depth_in 16) (mCons (mUn (gFld "Term" "node") (mVar 0)) (mCons (mDc (mItemsD (mVar 1)) [4] (gNm 4) mYes (mVar 4) (mUn (gFld "Term" "deep") (mBin gDGet (mVar 1) (mVar 4)))) mNil))) (gNm 2))
  (mSeq (mAsg (mAp (G_parts_in 16) (mCons (mUn (gFld "Term" "node") (mVar 0)) (mCons (mDc (mItemsD (mVar 1)) [4] (gNm 4) mYes (mVar 4) (mUn (gFld "Term" "part_count") (mBin gDGet (mVar 1) (mVar 4)))) mNil))) (gNm 3))
  (mSeq (mExpr (mAp G_need_size (mCons (mVar 2) (mCons (mVar 3) mNil))))
  (mRet (mAp (gMake "Term" ["node", "deep", "part_count"]) (mCons (mAp (G_put_in 16) (mCons (mUn (gFld "Term" "node") (mVar 0)) (mCons (mDc (mItemsD (mVar 1)) [4] (gNm 4) mYes (mVar 4) (mUn (gFld "Term" "node") (mBin gDGet (mVar 1) (mVar 4)))) mNil))) (mCons (mVar 2) (mCons (mVar 3) mNil))))))))
noncomputable def G_Term_replaced : Fn := runB 5 sh_Term_replaced
noncomputable def sh_Term_filled : SS := (mRet (mMeth "Term" "replaced" G_Term_replaced (mVar 0) (mCons (mDcX (mItems (mMeth "Term" "names" G_Term_names (mVar 0) mNil)) [2] (gNm 2) (mBT (gDIn false) (mVar 2) (mVar 1)) (mVar 2) (mAp G_Term_of (mCons (mBin gDGet (mVar 1) (mVar 2)) mNil))) mNil)))
noncomputable def G_Term_filled : Fn := runB 3 sh_Term_filled
noncomputable def sh_Statement_replaced : SS := (mSeq (mAsg (mMethDD "Term" "filled" "self" G_Term_filled (mUn (gFld "Statement" "own_one") (mVar 0)) 1) (gNm 2))
  (mRet (mAp (gMake "Statement" ["own_relation", "own_one", "own_other"]) (mCons (mUn (gFld "Statement" "own_relation") (mVar 0)) (mCons (mVar 2) (mCons (mIfE (mBT (gIs false) (mUn (gFld "Statement" "own_other") (mVar 0)) (mC .non)) (mC .non) (mMethDD "Term" "filled" "self" G_Term_filled (mUn (gFld "Statement" "own_other") (mVar 0)) 1)) mNil))))))
noncomputable def G_Statement_replaced : Fn := runB 3 sh_Statement_replaced
noncomputable def sh_Statement_filled : SS := (mRet (mMeth "Statement" "replaced" G_Statement_replaced (mVar 0) (mCons (mVar 1) mNil)))
noncomputable def G_Statement_filled : Fn := runB 2 sh_Statement_filled
noncomputable def sh_Statement_text : SS := (mSeq (mIf (mBT (gEq false) (mUn (gFld "Statement" "own_relation") (mVar 0)) (mC (.str "empty"))) (mRet (mJoined [(mFmtO "Term" G_Term___str__ (mUn (gFld "Statement" "own_one") (mVar 0))), (mFmt (mC c_EMPTY))])) mSkip)
  (mRet (mJoined [(mFmtO "Term" G_Term___str__ (mUn (gFld "Statement" "own_one") (mVar 0))), (mFmt (mCDict c_MIDDLES (mUn (gFld "Statement" "own_relation") (mVar 0)))), (mFmtO "Term" G_Term___str__ (mUn (gFld "Statement" "own_other") (mVar 0)))])))
noncomputable def G_Statement_text : Fn := runB 1 sh_Statement_text
noncomputable def sh__law_saying_text : SS := (mSeq (mAsg (mVar 0) (gTp 3 (gCons (gNm 1) (gCons (gNm 2) (gCons (gNm 3) gNil)))))
  (mSeq (mIf (mBT (gEq false) (mVar 1) (mC (.str "empty"))) (mRet (mBin gAdd (mAp (G__law_text 24) (mCons (mVar 2) mNil)) (mC (.str " is empty")))) mSkip)
  (mRet (mBin gAdd (mBin gAdd (mAp (G__law_text 24) (mCons (mVar 2) mNil)) (mIfE (mBT (gEq false) (mVar 1) (mC (.str "within"))) (mC (.str " within ")) (mC (.str " = ")))) (mAp (G__law_text 24) (mCons (mVar 3) mNil))))))
noncomputable def G__law_saying_text : Fn := runB 4 sh__law_saying_text
noncomputable def sh_Statement_empty : SS := (mRet (mAp (gMake "Statement" ["own_relation", "own_one", "own_other"]) (mCons (mC (.str "empty")) (mCons (mAp G_Term_of (mCons (mVar 0) mNil)) (mCons (mC .non) mNil)))))
noncomputable def G_Statement_empty : Fn := runB 1 sh_Statement_empty
noncomputable def sh_Statement_within : SS := (mRet (mAp (gMake "Statement" ["own_relation", "own_one", "own_other"]) (mCons (mC (.str "within")) (mCons (mAp G_Term_of (mCons (mVar 0) mNil)) (mCons (mAp G_Term_of (mCons (mVar 1) mNil)) mNil)))))
noncomputable def G_Statement_within : Fn := runB 2 sh_Statement_within
noncomputable def sh_Statement_equal : SS := (mRet (mAp (gMake "Statement" ["own_relation", "own_one", "own_other"]) (mCons (mC (.str "equal")) (mCons (mAp G_Term_of (mCons (mVar 0) mNil)) (mCons (mAp G_Term_of (mCons (mVar 1) mNil)) mNil)))))
noncomputable def G_Statement_equal : Fn := runB 2 sh_Statement_equal
noncomputable def sh__law_statement : SS := (mSeq (mAsg (mVar 0) (gTp 3 (gCons (gNm 1) (gCons (gNm 2) (gCons (gNm 3) gNil)))))
  (mSeq (mIf (mBT (gEq false) (mVar 1) (mC (.str "empty"))) (mRet (mAp G_Statement_empty (mCons (mAp (G__law_term 10) (mCons (mVar 2) mNil)) mNil))) mSkip)
  (mRet (mIfE (mBT (gEq false) (mVar 1) (mC (.str "within"))) (mAp G_Statement_within (mCons (mAp (G__law_term 10) (mCons (mVar 2) mNil)) (mCons (mAp (G__law_term 10) (mCons (mVar 3) mNil)) mNil))) (mAp G_Statement_equal (mCons (mAp (G__law_term 10) (mCons (mVar 2) mNil)) (mCons (mAp (G__law_term 10) (mCons (mVar 3) mNil)) mNil)))))))
noncomputable def G__law_statement : Fn := runB 4 sh__law_statement
noncomputable def sh__law_filled (G__law_filled' : Fn) : SS := (mSeq (mIf (mBT (gEq false) (mBin gIx (mVar 0) (mC (.int 0))) (mC (.str "name"))) (mRet (mDGet2 (mVar 1) (mBin gIx (mVar 0) (mC (.int 1))) (mVar 0))) mSkip)
  (mRet (mBin gAdd (mAp gTup (mCons (mBin gIx (mVar 0) (mC (.int 0))) mNil)) (mAp (g1 gTupOf) (mCons (mLc (mItems (mSl (mVar 0) (mPart (mC (.int 1))) mNoPart)) [2] (gNm 2) mYes (mAp G__law_filled' (mCons (mVar 2) (mCons (mVar 1) mNil)))) mNil)))))
noncomputable def G__law_filled : Nat → Fn
  | 0 => fun _ _ => .bad
  | n + 1 => runB 3 (sh__law_filled (G__law_filled n))
noncomputable def sh__law_size (G__law_size' : Fn) : SS := (mSeq (mIf (mBT (gIn false) (mBin gIx (mVar 0) (mC (.int 0))) (mAp gTup (mCons (mC (.str "all")) (mCons (mC (.str "none")) (mCons (mC (.str "name")) mNil))))) (mRet (mAp gTup (mCons (mC (.int 1)) (mCons (mC (.int 1)) mNil)))) mSkip)
  (mSeq (mAsg (mLc (mItems (mSl (mVar 0) (mPart (mC (.int 1))) mNoPart)) [2] (gNm 2) mYes (mAp G__law_size' (mCons (mVar 2) mNil))) (gNm 1))
  (mRet (mAp gTup (mCons (mBin gAdd (mC (.int 1)) (mAp (g1 gMax) (mCons (mLc (mItems (mVar 1)) [3, 4] (gTp 2 (gCons (gNm 3) (gCons (gNm 4) gNil))) mYes (mVar 3)) mNil))) (mCons (mBin gAdd (mC (.int 1)) (mAp (g1 gSum) (mCons (mLc (mItems (mVar 1)) [3, 4] (gTp 2 (gCons (gNm 3) (gCons (gNm 4) gNil))) mYes (mVar 4)) mNil))) mNil))))))
noncomputable def G__law_size : Nat → Fn
  | 0 => fun _ _ => .bad
  | n + 1 => runB 5 (sh__law_size (G__law_size n))
noncomputable def sh__law_extra : SS := (mSeq (mIf (mBT (gEq false) (mUn (gXFld cs_code "code") (mVar 0)) (mC (.str "InvalidStep"))) (mRet (mUn (gXFld cs_path "path") (mVar 0))) mSkip)
  (mSeq (mIf (mBT (gIn false) (mUn (gXFld cs_code "code") (mVar 0)) (mAp gTup (mCons (mC (.str "InvalidText")) (mCons (mC (.str "InvalidPage")) mNil)))) (mRet (mUn (gXFld cs_line "line") (mVar 0))) mSkip)
  (mSeq (mIf (mBT (gEq false) (mUn (gXFld cs_code "code") (mVar 0)) (mC (.str "InvalidCommand"))) (mRet (mUn (gXFld cs_word "word") (mVar 0))) mSkip)
  (mSeq (mIf (mBT (gIn false) (mUn (gXFld cs_code "code") (mVar 0)) (mAp gTup (mCons (mC (.str "TooDeep")) (mCons (mC (.str "TooMany")) mNil)))) (mRet (mUn (gXFld cs_limit "limit") (mVar 0))) mSkip)
  (mSeq (mIf (mBT (gEq false) (mUn (gXFld cs_code "code") (mVar 0)) (mC (.str "InUse"))) (mRet (mUn (gXFld cs_user "user") (mVar 0))) mSkip)
  (mSeq (mIf (mBT (gEq false) (mUn (gXFld cs_code "code") (mVar 0)) (mC (.str "Breaks"))) (mRet (mAp gTup (mCons (mUn (gXFld cs_fact_name "fact_name") (mVar 0)) (mCons (mUn (gXFld cs_sheet_name "sheet_name") (mVar 0)) mNil)))) mSkip)
  (mRet (mIfE (mBT (gIn false) (mUn (gXFld cs_code "code") (mVar 0)) (mAp gTup (mCons (mC (.str "Unlike")) (mCons (mC (.str "Apart")) (mCons (mC (.str "NothingLeft")) mNil))))) (mC .non) (mUn (gXFld cs_value "value") (mVar 0))))))))))
noncomputable def G__law_extra : Fn := runB 1 sh__law_extra
noncomputable def sh_lam0 : SM W := (mMethKw "Statement" "filled" G_Statement_filled ["ax", "bx"] (mAp G_Statement_within (mCons (mVar 0) (mCons (mC (.str "bx")) mNil))) (mCons (mVar 1) (mCons (mC .non) mNil)))
noncomputable def G_lam0 : Fn := runL L_0 sh_lam0
noncomputable def sh_lam1 : SM W := (mMethKw "Statement" "filled" G_Statement_filled ["ax"] (mAp G_Statement_equal (mCons (mC (.str "bx")) (mCons (mBin (gOwnA "Term" (fun _ _ _ => .bad) G_Term___or__ G_Term___ror__) (mVar 0) (mVar 0)) mNil))) (mCons (mVar 1) mNil))
noncomputable def G_lam1 : Fn := runL L_1 sh_lam1
noncomputable def sh_lam2 : SM W := (mMethKw "Statement" "filled" G_Statement_filled ["bx", "ax"] (mAp G_Statement_within (mCons (mC (.str "ax")) (mCons (mC (.str "bx")) mNil))) (mCons (mC .non) (mCons (mVar 0) mNil)))
noncomputable def G_lam2 : Fn := runL L_2 sh_lam2
noncomputable def sh_lam3 : SM W := (mMethKw "Statement" "filled" G_Statement_filled ["bx", "ax"] (mAp G_Statement_within (mCons (mC (.str "bx")) (mCons (mC (.str "ax")) mNil))) (mCons (mVar 0) (mCons (mC .non) mNil)))
noncomputable def G_lam3 : Fn := runL L_3 sh_lam3
noncomputable def sh_lam4 : SM W := (mMeth "Statement" "text" G_Statement_text (mMethKw "Statement" "filled" G_Statement_filled ["ax"] (mAp G_Statement_empty (mCons (mC (.str "bx")) mNil)) (mCons (mVar 0) mNil)) mNil)
noncomputable def G_lam4 : Fn := runL L_4 sh_lam4
noncomputable def sh_lam5 : SM W := (mMethKw "Statement" "filled" G_Statement_filled ["ax"] (mAp G_Statement_empty (mCons (mVar 0) mNil)) (mCons (mVar 1) mNil))
noncomputable def G_lam5 : Fn := runL L_5 sh_lam5
noncomputable def F_clo : Nat → Fn := fun j => match j with
  | 0 => G_lam0
  | 1 => G_lam1
  | 2 => G_lam2
  | 3 => G_lam3
  | 4 => G_lam4
  | 5 => G_lam5
  | _ => fun _ _ => .bad
noncomputable def sh__law_why : SS := (mTryT 2 (fun c => kx_tab.lookup c) 1 (mRet (mAp gTup (mCons (mC (.str "value")) (mCons (mAct F_clo (mVar 0)) mNil)))) (mRet (mAp gTup (mCons (mUn (gXFld cs_code "code") (mVar 1)) (mCons (mAp (fun ws S => nox (G__law_extra ws S)) (mCons (mVar 1) mNil)) mNil)))))
noncomputable def G__law_why : Fn := runB 2 sh__law_why
noncomputable def sh__law_whys : SS := (mRet (mLc (mItems (mVar 0)) [1] (gNm 1) mYes (mAp G__law_why (mCons (mVar 1) mNil))))
noncomputable def G__law_whys : Fn := runB 2 sh__law_whys
noncomputable def sh__law_statements_filled_so : SS := (mSeq (mAsg (mAp gTup (mCons (mAp G_Term_of (mCons (mC (.str "a")) mNil)) (mCons (mAp G_Term_of (mCons (mC (.str "a")) mNil)) (mCons (mMeth "Term" "closed" G_Term_closed (mAp G_Term_of (mCons (mC (.str "ax")) mNil)) mNil) mNil)))) (gTp 3 (gCons (gNm 5) (gCons (gNm 6) (gCons (gNm 7) gNil)))))
  (mSeq (mFor (mRange1 (mCons (mC (.int 39)) mNil)) (gNm 1) (mAsg (mMeth "Term" "closed" G_Term_closed (mVar 5) mNil) (gNm 5)))
  (mSeq (mFor (mRange1 (mCons (mC (.int 9)) mNil)) (gNm 1) (mAsg (mBin (gOwnA "Term" (fun _ _ _ => .bad) G_Term___and__ G_Term___rand__) (mVar 6) (mVar 6)) (gNm 6)))
  (mSeq (mAsg (mAp G__law_one (mCons (mVar 0) (mCons (mAp gLst (mCons (mC .non) (mCons (mC (.int 3)) (mCons (mC (.str "A")) (mCons (mC (.bl true)) (mCons (mC (.str "rim")) (mCons (mAp gTup (mCons (mC (.str "a")) mNil)) mNil))))))) mNil))) (gNm 2))
  (mSeq (mAsg (mAp gLst (mCons (mLam 0 "_law_statements_filled_so" 0) (mCons (mLam 0 "_law_statements_filled_so" 1) (mCons (mLam 0 "_law_statements_filled_so" 2) (mCons (mLam 0 "_law_statements_filled_so" 3) (mCons (mLam 0 "_law_statements_filled_so" 4) (mCons (mLam 0 "_law_statements_filled_so" 5) mNil))))))) (gNm 3))
  (mSeq (mAsg (mAp gLst (mCons (mAp gTup (mCons (mC (.str "TooDeep")) (mCons (mC (.int 40)) mNil))) (mCons (mAp gTup (mCons (mC (.str "TooMany")) (mCons (mC (.int 2000)) mNil))) (mCons (mAp gTup (mCons (mC (.str "InvalidTerm")) (mCons (mVar 2) mNil))) (mCons (mAp gTup (mCons (mC (.str "InvalidTerm")) (mCons (mVar 2) mNil))) (mCons (mAp gTup (mCons (mC (.str "value")) (mCons (mC (.str "bx is empty")) mNil))) (mCons (mAp gTup (mCons (mC (.str "TooDeep")) (mCons (mC (.int 40)) mNil))) mNil))))))) (gNm 4))
  (mRet (mAp (G__law_same 10) (mCons (mCallC [(0, [7, 5]), (1, [7, 6]), (2, [2]), (3, [2]), (4, [2]), (5, [7, 5])] G__law_whys (mCons (mVar 3) mNil)) (mCons (mVar 4) mNil))))))))))
noncomputable def G__law_statements_filled_so : Fn := runMk 8 sh__law_statements_filled_so
noncomputable def sh_law : SS := (mSeq (mAsg (mAp G__law_cells (mCons (mVar 0) mNil)) (gNm 1))
  (mSeq (mFor (mRange1 (mCons (mC (.int 4)) mNil)) (gNm 2) (mSeq (mAsg (mAp (G__law_form 10) (mCons (mVar 1) (mCons (mAp gLst (mCons (mC (.str "ax")) (mCons (mC (.str "bx")) (mCons (mC (.str "cx")) mNil)))) (mCons (mC (.int 4)) mNil)))) (gNm 3))
  (mSeq (mPar 11 12 (mCons (mAp (G__law_form 10) (mCons (mVar 1) (mCons (mAp gLst (mCons (mC (.str "ax")) (mCons (mC (.str "bx")) (mCons (mC (.str "dx")) mNil)))) (mCons (mC (.int 3)) mNil)))) (mCons (mAp (G__law_form 10) (mCons (mVar 1) (mCons (mAp gLst (mCons (mC (.str "cx")) (mCons (mC (.str "ax")) mNil))) (mCons (mC (.int 2)) mNil)))) mNil)))
  (mSeq (mPar3 13 14 15 (mCons (mAp (G__law_term 10) (mCons (mVar 3) mNil)) (mCons (mAp (G__law_term 10) (mCons (mVar 11) mNil)) (mCons (mAp (G__law_term 10) (mCons (mVar 12) mNil)) mNil))))
  (mSeq (mAsg (mDisp (mPCons (mC (.str "ax")) (mAp gTup (mCons (mC (.str "name")) (mCons (mC (.str "bx")) mNil))) (mPCons (mC (.str "bx")) (mAp gTup (mCons (mC (.str "name")) (mCons (mC (.str "ax")) mNil))) mPNil))) (gNm 4))
  (mSeq (mAsg (mAp gLst (mCons (mAp (G__law_filled 10) (mCons (mVar 3) (mCons (mDisp (mPCons (mC (.str "ax")) (mVar 11) (mPCons (mC (.str "bx")) (mVar 12) mPNil))) mNil))) (mCons (mAp (G__law_filled 10) (mCons (mVar 3) (mCons (mDisp (mPCons (mC (.str "cx")) (mAp gTup (mCons (mC (.str "name")) (mCons (mC (.str "ax")) mNil))) mPNil)) mNil))) (mCons (mAp (G__law_filled 10) (mCons (mVar 3) (mCons (mVar 4) mNil))) (mCons (mVar 3) mNil))))) (gNm 5))
  (mSeq (mAsg (mAp gLst (mCons (mMethKw "Term" "filled" G_Term_filled ["bx", "ax"] (mVar 13) (mCons (mVar 15) (mCons (mVar 14) mNil))) (mCons (mMethKw "Term" "filled" G_Term_filled ["cx", "zz"] (mVar 13) (mCons (mC (.str "ax")) (mCons (mC .non) mNil))) (mCons (mMethKw "Term" "filled" G_Term_filled ["ax", "bx"] (mVar 13) (mCons (mC (.str "bx")) (mCons (mC (.str "ax")) mNil))) (mCons (mMethKw "Term" "filled" G_Term_filled [] (mVar 13) mNil) mNil))))) (gNm 6))
  (mSeq (mIf (mNotT (mTru (mAp (G__law_same 10) (mCons (mLc (mItems (mVar 6)) [9] (gNm 9) mYes (mMeth "Term" "text" G_Term_text (mVar 9) mNil)) (mCons (mLc (mItems (mVar 5)) [9] (gNm 9) mYes (mAp (G__law_text 24) (mCons (mVar 9) mNil))) mNil))))) (mRet (mC (.bl false))) mSkip)
  (mSeq (mAsg (mLc (mItems (mVar 6)) [9] (gNm 9) mYes (mAp gTup (mCons (mMeth "Term" "depth" G_Term_depth (mVar 9) mNil) (mCons (mMeth "Term" "parts" G_Term_parts (mVar 9) mNil) mNil)))) (gNm 7))
  (mSeq (mIf (mOrT (mNotT (mTru (mAp (G__law_same 10) (mCons (mVar 7) (mCons (mLc (mItems (mVar 5)) [9] (gNm 9) mYes (mAp (G__law_size 10) (mCons (mVar 9) mNil))) mNil))))) (mOrT (mBT (gEq true) (mMeth "Term" "text" G_Term_text (mVar 13) mNil) (mAp (G__law_text 24) (mCons (mVar 3) mNil))) (mBT (gEq true) (mMeth "Term" "text" G_Term_text (mVar 14) mNil) (mAp (G__law_text 24) (mCons (mVar 11) mNil))))) (mRet (mC (.bl false))) mSkip)
  (mSeq (mAsg (mAp gTup (mCons (mAp G__law_one (mCons (mVar 1) (mCons (mAp gLst (mCons (mC (.str "within")) (mCons (mC (.str "equal")) mNil))) mNil))) (mCons (mVar 3) (mCons (mVar 11) mNil)))) (gNm 8))
  (mSeq (mAsg (mMethKw "Statement" "filled" G_Statement_filled ["ax", "dx"] (mAp G__law_statement (mCons (mVar 8) mNil)) (mCons (mVar 15) (mCons (mC (.str "zz")) mNil))) (gNm 9))
  (mSeq (mAsg (mDisp (mPCons (mC (.str "ax")) (mVar 12) (mPCons (mC (.str "dx")) (mAp gTup (mCons (mC (.str "name")) (mCons (mC (.str "zz")) mNil))) mPNil))) (gNm 10))
  (mIf (mBT (gEq true) (mMeth "Statement" "text" G_Statement_text (mVar 9) mNil) (mAp G__law_saying_text (mCons (mAp gTup (mCons (mBin gIx (mVar 8) (mC (.int 0))) (mCons (mAp (G__law_filled 10) (mCons (mVar 3) (mCons (mVar 10) mNil))) (mCons (mAp (G__law_filled 10) (mCons (mVar 11) (mCons (mVar 10) mNil))) mNil)))) mNil))) (mRet (mC (.bl false))) mSkip))))))))))))))
  (mRet (mAp G__law_statements_filled_so (mCons (mVar 1) mNil)))))
noncomputable def G_law : Fn := runB 16 sh_law
structure Txt (w : World) (K : PySem.W.Frag) (mg : Str → Option Value) : Prop where
  z_all : mg "all" = none
  z_bool : mg "bool" = none
  z_int : mg "int" = none
  z_isinstance : mg "isinstance" = none
  z_len : mg "len" = none
  z_list : mg "list" = none
  z_max : mg "max" = none
  z_range : mg "range" = none
  z_sorted : mg "sorted" = none
  z_str : mg "str" = none
  z_sum : mg "sum" = none
  z_super : mg "super" = none
  z_tuple : mg "tuple" = none
  z_zip : mg "zip" = none
  c_EMPTY : KCon K mg "EMPTY" c_EMPTY
  c_LETTERS : KCon K mg "LETTERS" c_LETTERS
  c_MOST_DEEP : KCon K mg "MOST_DEEP" c_MOST_DEEP
  c_MOST_LETTERS : KCon K mg "MOST_LETTERS" c_MOST_LETTERS
  c_MOST_PARTS : KCon K mg "MOST_PARTS" c_MOST_PARTS
  c_RESERVED : KCon K mg "RESERVED" c_RESERVED
  c_WORDS : KCon K mg "WORDS" c_WORDS
  fm_Term : FmtT K mg "Term"
  ra_InvalidTerm : RaT K mg "InvalidTerm"
  ra_TooDeep : RaT K mg "TooDeep"
  ra_TooMany : RaT K mg "TooMany"
  kx : KxTx K mg "MapError" "Missing" "NothingLeft" kx_tab
  d_MIDDLES : KDTab K mg w "MIDDLES" c_MIDDLES
  d_SHOWN : KDTab K mg w "SHOWN" c_SHOWN
  k_Term : KCon K mg "Term" (.gl "Term")
  fl_Statement_own_one : FldT K mg "Statement" "own_one"
  fl_Statement_own_other : FldT K mg "Statement" "own_other"
  fl_Statement_own_relation : FldT K mg "Statement" "own_relation"
  fl_Term_deep : FldT K mg "Term" "deep"
  fl_Term_node : FldT K mg "Term" "node"
  fl_Term_part_count : FldT K mg "Term" "part_count"
  is_Term : IsT K mg "Term"
  x_InvalidTerm : XTx K mg "InvalidTerm" s_InvalidTerm "self" p_InvalidTerm l_InvalidTerm "/claim/cut.py"
  x_TooDeep : XTx K mg "TooDeep" s_TooDeep "self" p_TooDeep l_TooDeep "/claim/cut.py"
  x_TooMany : XTx K mg "TooMany" s_TooMany "self" p_TooMany l_TooMany "/claim/cut.py"
  xf_code : XfT K mg cs_code "code"
  xf_fact_name : XfT K mg cs_fact_name "fact_name"
  xf_limit : XfT K mg cs_limit "limit"
  xf_line : XfT K mg cs_line "line"
  xf_path : XfT K mg cs_path "path"
  xf_sheet_name : XfT K mg cs_sheet_name "sheet_name"
  xf_user : XfT K mg cs_user "user"
  xf_value : XfT K mg cs_value "value"
  xf_word : XfT K mg cs_word "word"
  bm_Term_filled : BmT K mg "Term" "filled"
  op_and : ∀ f r C, mg "Term" = some (.ref C) → Meth K C "__and__" f → Meth K C "__rand__" r → OwnOpA K C .BitAnd f r
  op_or : ∀ f r C, mg "Term" = some (.ref C) → Meth K C "__or__" f → Meth K C "__ror__" r → OwnOpA K C .BitOr f r
  op_sub : ∀ f r C, mg "Term" = some (.ref C) → Meth K C "__sub__" f → Meth K C "__rsub__" r → OwnOpA K C .Sub f r
  f_Term_depth : MTx K mg "Term" "depth" "Term.depth" s_Term_depth ["self"]
  f_Term_parts : MTx K mg "Term" "parts" "Term.parts" s_Term_parts ["self"]
  f_is_name : FTx K mg "is_name" s_is_name ["value"]
  f_Term___init__ : MkTx K mg "Term" "Term.__init__" s_Term___init__ ["self", "node", "deep", "many"] ["node", "deep", "part_count"]
  f_Term_of : StTx K mg "Term" "of" "Term.of" s_Term_of ["value"]
  f_inner_nodes : FTx K mg "inner_nodes" s_inner_nodes ["node"]
  f_node_names : FTx K mg "node_names" s_node_names ["node"]
  f_Term_names : MTx K mg "Term" "names" "Term.names" s_Term_names ["self"]
  f_put_in : FTx K mg "put_in" s_put_in ["node", "terms"]
  f_depth_in : FTx K mg "depth_in" s_depth_in ["node", "deep"]
  f_parts_in : FTx K mg "parts_in" s_parts_in ["node", "many"]
  f_need_size : FTx K mg "need_size" s_need_size ["deep", "many"]
  f_Term_replaced : MTx K mg "Term" "replaced" "Term.replaced" s_Term_replaced ["self", "terms"]
  f_Term_filled : KwTx K mg "Term" "filled" "Term.filled" s_Term_filled
  f_node_text : FTx K mg "node_text" s_node_text ["node"]
  f_Term_text : MTx K mg "Term" "text" "Term.text" s_Term_text ["self"]
  f_Statement___init__ : MkTx K mg "Statement" "Statement.__init__" s_Statement___init__ ["self", "relation", "one", "other"] ["own_relation", "own_one", "own_other"]
  f_Statement_replaced : MTx K mg "Statement" "replaced" "Statement.replaced" s_Statement_replaced ["self", "terms"]
  f_Statement_filled : KwTx K mg "Statement" "filled" "Statement.filled" s_Statement_filled
  f_Term___str__ : MTx K mg "Term" "__str__" "Term.__str__" s_Term___str__ ["self"]
  f_Statement_text : MTx K mg "Statement" "text" "Statement.text" s_Statement_text ["self"]
  f__law_cells : FTx K mg "_law_cells" s__law_cells ["_law_script"]
  f__law_draw : FTx K mg "_law_draw" s__law_draw ["_law_bag", "_law_sides"]
  f__law_one : FTx K mg "_law_one" s__law_one ["_law_bag", "_law_things"]
  f__law_same : FTx K mg "_law_same" s__law_same ["_law_found", "_law_due"]
  f__law_leaf : FTx K mg "_law_leaf" s__law_leaf ["_law_bag", "_law_names"]
  f__law_form : FTx K mg "_law_form" s__law_form ["_law_bag", "_law_names", "_law_deep"]
  f__law_text : FTx K mg "_law_text" s__law_text ["_law_form_here"]
  f_Term_whole : StTx K mg "Term" "whole" "Term.whole" s_Term_whole []
  f_Term_nothing : StTx K mg "Term" "nothing" "Term.nothing" s_Term_nothing []
  f_joined : StarTx K mg "joined" s_joined ["word"] "values"
  f_Term___or__ : MTx K mg "Term" "__or__" "Term.__or__" s_Term___or__ ["self", "other"]
  f_Term___ror__ : MTx K mg "Term" "__ror__" "Term.__ror__" s_Term___ror__ ["self", "other"]
  f_Term___and__ : MTx K mg "Term" "__and__" "Term.__and__" s_Term___and__ ["self", "other"]
  f_Term___rand__ : MTx K mg "Term" "__rand__" "Term.__rand__" s_Term___rand__ ["self", "other"]
  f_Term___sub__ : MTx K mg "Term" "__sub__" "Term.__sub__" s_Term___sub__ ["self", "other"]
  f_Term___rsub__ : MTx K mg "Term" "__rsub__" "Term.__rsub__" s_Term___rsub__ ["self", "other"]
  f_Term___invert__ : MTx K mg "Term" "__invert__" "Term.__invert__" s_Term___invert__ ["self"]
  f_Term_closed : MTx K mg "Term" "closed" "Term.closed" s_Term_closed ["self"]
  f_Term_opened : MTx K mg "Term" "opened" "Term.opened" s_Term_opened ["self"]
  f_Term_rim : MTx K mg "Term" "rim" "Term.rim" s_Term_rim ["self"]
  f__law_term : FTx K mg "_law_term" s__law_term ["_law_form_here"]
  f__law_saying_text : FTx K mg "_law_saying_text" s__law_saying_text ["_law_saying"]
  f_Statement_empty : StTx K mg "Statement" "empty" "Statement.empty" s_Statement_empty ["term"]
  f_Statement_within : StTx K mg "Statement" "within" "Statement.within" s_Statement_within ["one", "other"]
  f_Statement_equal : StTx K mg "Statement" "equal" "Statement.equal" s_Statement_equal ["one", "other"]
  f__law_statement : FTx K mg "_law_statement" s__law_statement ["_law_saying"]
  f__law_filled : FTx K mg "_law_filled" s__law_filled ["_law_form_here", "_law_known"]
  f__law_size : FTx K mg "_law_size" s__law_size ["_law_form_here"]
  f__law_extra : FTx K mg "_law_extra" s__law_extra ["_law_e"]
  f__law_why : FTx K mg "_law_why" s__law_why ["_law_ask"]
  f__law_whys : FTx K mg "_law_whys" s__law_whys ["_law_asks"]
  f__law_statements_filled_so : FTx K mg "_law_statements_filled_so" s__law_statements_filled_so ["_law_bag"]
  f_law : FTx K mg "law" s_law ["_law_script"]
section
variable {P : Program} {w : World} {K : PySem.W.Frag} {mg : Str → Option Value} {base : Heap}
theorem sx_InvalidTerm : StX s_InvalidTerm "self" p_InvalidTerm l_InvalidTerm := ⟨⟨_, _, _, _, _, _, _, _, _, rfl, (.lit (.par REX.Asn.nil)), fun env => ⟨_, rfl⟩⟩, ⟨_, rfl, rfl⟩, by decide +kernel, rfl, rfl, rfl, by decide +kernel, by decide +kernel, rfl, rfl, by decide +kernel, by decide +kernel, fun _ _ _ _ _ _ _ _ us hl => match us, hl with | [_, _], _ => rfl, by decide +kernel, RL.hpar_of (by decide +kernel)⟩
theorem sx_TooDeep : StX s_TooDeep "self" p_TooDeep l_TooDeep := ⟨⟨_, _, _, _, _, _, _, _, _, rfl, (.lit (.par REX.Asn.nil)), fun env => ⟨_, rfl⟩⟩, ⟨_, rfl, rfl⟩, by decide +kernel, rfl, rfl, rfl, by decide +kernel, by decide +kernel, rfl, rfl, by decide +kernel, by decide +kernel, fun _ _ _ _ _ _ _ _ us hl => match us, hl with | [_, _], _ => rfl, by decide +kernel, RL.hpar_of (by decide +kernel)⟩
theorem sx_TooMany : StX s_TooMany "self" p_TooMany l_TooMany := ⟨⟨_, _, _, _, _, _, _, _, _, rfl, (.lit (.par REX.Asn.nil)), fun env => ⟨_, rfl⟩⟩, ⟨_, rfl, rfl⟩, by decide +kernel, rfl, rfl, rfl, by decide +kernel, by decide +kernel, rfl, rfl, by decide +kernel, by decide +kernel, fun _ _ _ _ _ _ _ _ us hl => match us, hl with | [_, _], _ => rfl, by decide +kernel, RL.hpar_of (by decide +kernel)⟩
theorem sc_Term_depth : FnScope ["self"] ["self"] (defScope s_Term_depth) := ⟨rfl, rfl, rfl, by decide +kernel, rfl, by decide +kernel, by decide +kernel⟩
theorem ok_Term_depth (T : Txt w K mg) (hP : REX.PrgOk P "/claim/cut.py") : MeE P w K mg base 1 "Term" "depth" "Term.depth" s_Term_depth ["self"] G_Term_depth := me_e T.f_Term_depth sc_Term_depth fun f cdv A outer s H E hr tk => by
    exact (psm_one (psm_ret (pm_fld T.fl_Term_deep (pm_var 0))))
theorem sc_Term_parts : FnScope ["self"] ["self"] (defScope s_Term_parts) := ⟨rfl, rfl, rfl, by decide +kernel, rfl, by decide +kernel, by decide +kernel⟩
theorem ok_Term_parts (T : Txt w K mg) (hP : REX.PrgOk P "/claim/cut.py") : MeE P w K mg base 1 "Term" "parts" "Term.parts" s_Term_parts ["self"] G_Term_parts := me_e T.f_Term_parts sc_Term_parts fun f cdv A outer s H E hr tk => by
    exact (psm_one (psm_ret (pm_fld T.fl_Term_part_count (pm_var 0))))
theorem sc_is_name : FnScope ["value", "sign"] ["value"] (defScope s_is_name) := ⟨rfl, rfl, rfl, by decide +kernel, rfl, by decide +kernel, by decide +kernel⟩
theorem ok_is_name (T : Txt w K mg) (hP : REX.PrgOk P "/claim/cut.py") : FnE P w K mg base 1 "is_name" s_is_name ["value"] G_is_name := fn_e T.f_is_name sc_is_name fun f cdv A outer s H E hr tk => by
    exact (psm_cons (psm_if (PWM.pt (pwm_or (ptm_not (ptm_tru (pm_callB (cm_isi ktB_ok) T.z_isinstance (pam_cons (pm_var 0) (pam_cons (pm_ty (n := "str") T.z_str) pam_nil))))) (pwm_or (ptm_not (ptm_chain om_le om_le pm_int (pm_callB cm_len T.z_len (pam_cons (pm_var 0) pam_nil)) (pm_glob T.c_MOST_LETTERS))) (pwm_or1 (ptm_cmp (om_in (hu65 hr)) (pm_var 0) (pm_glob T.c_RESERVED)))))) (psm_one (psm_ret pm_bl)) psm_nil)
      (psm_one (psm_ret (pm_callB (cm_all rfl) T.z_all (pam_cons (pm_lc (own := [("sign", 1)]) rfl sc_is_name.nd (pim_any (pm_var 0)) (show blkC ["value", "sign"] (defScope s_is_name) _ [("sign", 1)] = true by decide +kernel) ⟨fun _ _ _ _ _ => (pgm_name 1 sc_is_name.nd), fun _ _ _ _ _ => ptsm_nil, fun _ _ _ _ _ => (pm_cmp (om_in (hu65 hr)) (pm_var 1) (pm_glob T.c_LETTERS))⟩) pam_nil)))))
theorem sc_Term___init__ : FnScope ["self", "node", "deep", "many"] ["self", "node", "deep", "many"] (defScope s_Term___init__) := ⟨rfl, rfl, rfl, by decide +kernel, rfl, by decide +kernel, by decide +kernel⟩
theorem ok_Term___init__ (T : Txt w K mg) : MkE P w K mg base 1 "Term" ["node", "deep", "part_count"] := mk_e (l := [("node", 1), ("deep", 2), ("part_count", 3)]) T.f_Term___init__ sc_Term___init__ rfl rfl (by decide) (by decide) rfl (by decide) fun C f cdv A outer s H E hc hn => by
    exact (psi_cons (x0 := "self") hc (hn _ (by simp)) (psi_cons (x0 := "self") hc (hn _ (by simp)) (psi_cons (x0 := "self") hc (hn _ (by simp)) psi_nil)))
theorem sc_Term_of : FnScope ["value"] ["value"] (defScope s_Term_of) := ⟨rfl, rfl, rfl, by decide +kernel, rfl, by decide +kernel, by decide +kernel⟩
theorem ok_Term_of (T : Txt w K mg) (hP : REX.PrgOk P "/claim/cut.py") (h_is_name : FnE P w K mg base 1 "is_name" s_is_name ["value"] G_is_name) (h_Term___init__ : MkE P w K mg base 1 "Term" ["node", "deep", "part_count"]) : StE P w K mg base 3 "Term" "of" "Term.of" s_Term_of ["value"] G_Term_of := st_e T.f_Term_of sc_Term_of fun f cdv A outer s H E hr tk => by
    exact (psm_cons (psm_if (ptm_tru (pm_callB (cm_isi (ktC_ok T.is_Term)) T.z_isinstance (pam_cons (pm_var 0) (pam_cons (pm_glob T.k_Term) pam_nil)))) (psm_one (psm_ret (pm_make h_Term___init__ hr (by decide) tk (pam_cons (pm_fld T.fl_Term_node (pm_var 0)) (pam_cons (pm_fld T.fl_Term_deep (pm_var 0)) (pam_cons (pm_fld T.fl_Term_part_count (pm_var 0)) pam_nil)))))) psm_nil)
      (psm_cons (psm_if (ptm_not (ptm_tru (pm_callE h_is_name hr (by decide) tk (pam_cons (pm_var 0) pam_nil)))) (psm_one (psm_raiseX rfl tk T.x_InvalidTerm hP T.z_super hr T.ra_InvalidTerm (pam_cons (pm_var 0) pam_nil))) psm_nil)
      (psm_one (psm_ret (pm_make h_Term___init__ hr (by decide) tk (pam_cons (pm_tup (pam_cons pm_str (pam_cons (pm_var 0) pam_nil))) (pam_cons pm_int (pam_cons pm_int pam_nil))))))))
theorem sc_inner_nodes : FnScope ["node"] ["node"] (defScope s_inner_nodes) := ⟨rfl, rfl, rfl, by decide +kernel, rfl, by decide +kernel, by decide +kernel⟩
theorem ok_inner_nodes (T : Txt w K mg) (hP : REX.PrgOk P "/claim/cut.py") : FnE P w K mg base 1 "inner_nodes" s_inner_nodes ["node"] G_inner_nodes := fn_e T.f_inner_nodes sc_inner_nodes fun f cdv A outer s H E hr tk => by
    exact (psm_one (psm_ret (pm_ifExp (ptm_cmp (om_in (hu65 hr)) (pm_ix (pm_var 0) pm_int) (pm_tup (pam_cons pm_str (pam_cons pm_str (pam_cons pm_str pam_nil))))) (pm_tup pam_nil) (pm_slice (pm_var 0) (pom_some pm_int) pom_none))))
theorem sc_node_names : FnScope ["node", "found", "inner"] ["node"] (defScope s_node_names) := ⟨rfl, rfl, rfl, by decide +kernel, rfl, by decide +kernel, by decide +kernel⟩
theorem ok_node_names (T : Txt w K mg) (hP : REX.PrgOk P "/claim/cut.py") (h_inner_nodes : FnE P w K mg base 1 "inner_nodes" s_inner_nodes ["node"] G_inner_nodes) : ∀ n : Nat, FnE P w K mg base (1 + n) "node_names" s_node_names ["node"] (G_node_names n)
  | 0 => fnE_bad T.f_node_names
  | n + 1 => fn_e T.f_node_names sc_node_names fun f cdv A outer s H E hr tk => by
    have h_node_names := ok_node_names T hP h_inner_nodes n
    exact (psm_cons (psm_if (ptm_cmp (om_eq (hu64 hr)) (pm_ix (pm_var 0) pm_int) pm_str) (psm_one (psm_ret (pm_disp (ppm_cons (pm_ix (pm_var 0) pm_int) pm_bl ppm_nil)))) psm_nil)
      (psm_cons (psm_set 1 pm_dnewR sc_node_names.nd)
      (psm_cons (psm_for (vs := [2]) (passes_of rfl) rfl (pim_any (pm_callE h_inner_nodes hr (Nat.le_trans (by decide : 1 ≤ 1) (Nat.le_add_right 1 _)) tk (pam_cons (pm_var 0) pam_nil))) (pgm_name 2 sc_node_names.nd) (psm_one (psm_expr (pm_dupd (pm_var 1) (pam_cons (pm_callE h_node_names hr (Nat.le_refl _) tk (pam_cons (pm_var 2) pam_nil)) pam_nil)))))
      (psm_one (psm_ret (pm_var 1))))))
theorem sc_Term_names : FnScope ["self"] ["self"] (defScope s_Term_names) := ⟨rfl, rfl, rfl, by decide +kernel, rfl, by decide +kernel, by decide +kernel⟩
theorem ok_Term_names (T : Txt w K mg) (hP : REX.PrgOk P "/claim/cut.py") (h_node_names : FnE P w K mg base 11 "node_names" s_node_names ["node"] (G_node_names 10)) : MeE P w K mg base 12 "Term" "names" "Term.names" s_Term_names ["self"] G_Term_names := me_e T.f_Term_names sc_Term_names fun f cdv A outer s H E hr tk => by
    exact (psm_one (psm_ret (pm_callB cm_srtSR T.z_sorted (pam_cons (pm_callTy (cm_listD rfl) T.z_list (pam_cons (pm_callE h_node_names hr (by decide) tk (pam_cons (pm_fld T.fl_Term_node (pm_var 0)) pam_nil)) pam_nil)) pam_nil))))
theorem sc_put_in : FnScope ["node", "terms", "inner"] ["node", "terms"] (defScope s_put_in) := ⟨rfl, rfl, rfl, by decide +kernel, rfl, by decide +kernel, by decide +kernel⟩
theorem ok_put_in (T : Txt w K mg) (hP : REX.PrgOk P "/claim/cut.py") (h_inner_nodes : FnE P w K mg base 1 "inner_nodes" s_inner_nodes ["node"] G_inner_nodes) : ∀ n : Nat, FnE P w K mg base (1 + n) "put_in" s_put_in ["node", "terms"] (G_put_in n)
  | 0 => fnE_bad T.f_put_in
  | n + 1 => fn_e T.f_put_in sc_put_in fun f cdv A outer s H E hr tk => by
    have h_put_in := ok_put_in T hP h_inner_nodes n
    exact (psm_cons (psm_if (ptm_cmp (om_eq (hu64 hr)) (pm_ix (pm_var 0) pm_int) pm_str) (psm_one (psm_ret (pm_dget2 (hu_of hr) (pm_var 1) (pm_ix (pm_var 0) pm_int) (pm_var 0)))) psm_nil)
      (psm_one (psm_ret (pm_tup (pam_cons (pm_ix (pm_var 0) pm_int) (pam_star (pm_lc (own := [("inner", 2)]) rfl sc_put_in.nd (pim_any (pm_callE h_inner_nodes hr (Nat.le_trans (by decide : 1 ≤ 1) (Nat.le_add_right 1 _)) tk (pam_cons (pm_var 0) pam_nil))) (show blkC ["node", "terms", "inner"] (defScope s_put_in) _ [("inner", 2)] = true by decide +kernel) ⟨fun _ _ _ _ _ => (pgm_name 2 sc_put_in.nd), fun _ _ _ _ _ => ptsm_nil, fun _ _ _ _ _ => (pm_callE h_put_in hr (Nat.le_refl _) takesE0 (pam_cons (pm_var 2) (pam_cons (pm_var 1) pam_nil)))⟩) pam_nil))))))
theorem sc_depth_in : FnScope ["node", "deep", "inner"] ["node", "deep"] (defScope s_depth_in) := ⟨rfl, rfl, rfl, by decide +kernel, rfl, by decide +kernel, by decide +kernel⟩
theorem ok_depth_in (T : Txt w K mg) (hP : REX.PrgOk P "/claim/cut.py") (h_inner_nodes : FnE P w K mg base 1 "inner_nodes" s_inner_nodes ["node"] G_inner_nodes) : ∀ n : Nat, FnE P w K mg base (1 + n) "depth_in" s_depth_in ["node", "deep"] (G_depth_in n)
  | 0 => fnE_bad T.f_depth_in
  | n + 1 => fn_e T.f_depth_in sc_depth_in fun f cdv A outer s H E hr tk => by
    have h_depth_in := ok_depth_in T hP h_inner_nodes n
    exact (psm_cons (psm_if (ptm_cmp (om_eq (hu64 hr)) (pm_ix (pm_var 0) pm_int) pm_str) (psm_one (psm_ret (pm_dget2 (hu_of hr) (pm_var 1) (pm_ix (pm_var 0) pm_int) pm_int))) psm_nil)
      (psm_one (psm_ret (pm_bin om_add pm_int (pm_callB (cm_max rfl) T.z_max (pam_cons (pm_bin om_add (pm_lst (pam_cons pm_int pam_nil)) (pm_lc (own := [("inner", 2)]) rfl sc_depth_in.nd (pim_any (pm_callE h_inner_nodes hr (Nat.le_trans (by decide : 1 ≤ 1) (Nat.le_add_right 1 _)) tk (pam_cons (pm_var 0) pam_nil))) (show blkC ["node", "deep", "inner"] (defScope s_depth_in) _ [("inner", 2)] = true by decide +kernel) ⟨fun _ _ _ _ _ => (pgm_name 2 sc_depth_in.nd), fun _ _ _ _ _ => ptsm_nil, fun _ _ _ _ _ => (pm_callE h_depth_in hr (Nat.le_refl _) takesE0 (pam_cons (pm_var 2) (pam_cons (pm_var 1) pam_nil)))⟩)) pam_nil))))))
theorem sc_parts_in : FnScope ["node", "many", "inner"] ["node", "many"] (defScope s_parts_in) := ⟨rfl, rfl, rfl, by decide +kernel, rfl, by decide +kernel, by decide +kernel⟩
theorem ok_parts_in (T : Txt w K mg) (hP : REX.PrgOk P "/claim/cut.py") (h_inner_nodes : FnE P w K mg base 1 "inner_nodes" s_inner_nodes ["node"] G_inner_nodes) : ∀ n : Nat, FnE P w K mg base (1 + n) "parts_in" s_parts_in ["node", "many"] (G_parts_in n)
  | 0 => fnE_bad T.f_parts_in
  | n + 1 => fn_e T.f_parts_in sc_parts_in fun f cdv A outer s H E hr tk => by
    have h_parts_in := ok_parts_in T hP h_inner_nodes n
    exact (psm_cons (psm_if (ptm_cmp (om_eq (hu64 hr)) (pm_ix (pm_var 0) pm_int) pm_str) (psm_one (psm_ret (pm_dget2 (hu_of hr) (pm_var 1) (pm_ix (pm_var 0) pm_int) pm_int))) psm_nil)
      (psm_one (psm_ret (pm_bin om_add pm_int (pm_callB (cm_sum rfl) T.z_sum (pam_cons (pm_lc (own := [("inner", 2)]) rfl sc_parts_in.nd (pim_any (pm_callE h_inner_nodes hr (Nat.le_trans (by decide : 1 ≤ 1) (Nat.le_add_right 1 _)) tk (pam_cons (pm_var 0) pam_nil))) (show blkC ["node", "many", "inner"] (defScope s_parts_in) _ [("inner", 2)] = true by decide +kernel) ⟨fun _ _ _ _ _ => (pgm_name 2 sc_parts_in.nd), fun _ _ _ _ _ => ptsm_nil, fun _ _ _ _ _ => (pm_callE h_parts_in hr (Nat.le_refl _) takesE0 (pam_cons (pm_var 2) (pam_cons (pm_var 1) pam_nil)))⟩) pam_nil))))))
theorem sc_need_size : FnScope ["deep", "many"] ["deep", "many"] (defScope s_need_size) := ⟨rfl, rfl, rfl, by decide +kernel, rfl, by decide +kernel, by decide +kernel⟩
theorem ok_need_size (T : Txt w K mg) (hP : REX.PrgOk P "/claim/cut.py") : FnE P w K mg base 1 "need_size" s_need_size ["deep", "many"] G_need_size := fn_e T.f_need_size sc_need_size fun f cdv A outer s H E hr tk => by
    exact (psm_cons (psm_if (ptm_cmp om_gt (pm_var 0) (pm_glob T.c_MOST_DEEP)) (psm_one (psm_raiseX rfl tk T.x_TooDeep hP T.z_super hr T.ra_TooDeep (pam_cons (pm_glob T.c_MOST_DEEP) pam_nil))) psm_nil)
      (psm_one (psm_if (ptm_cmp om_gt (pm_var 1) (pm_glob T.c_MOST_PARTS)) (psm_one (psm_raiseX rfl tk T.x_TooMany hP T.z_super hr T.ra_TooMany (pam_cons (pm_glob T.c_MOST_PARTS) pam_nil))) psm_nil)))
theorem sc_Term_replaced : FnScope ["self", "terms", "deep", "many", "name"] ["self", "terms"] (defScope s_Term_replaced) := ⟨rfl, rfl, rfl, by decide +kernel, rfl, by decide +kernel, by decide +kernel⟩
theorem ok_Term_replaced (T : Txt w K mg) (hP : REX.PrgOk P "/claim/cut.py") (h_Term___init__ : MkE P w K mg base 1 "Term" ["node", "deep", "part_count"]) (h_put_in : FnE P w K mg base 17 "put_in" s_put_in ["node", "terms"] (G_put_in 16)) (h_depth_in : FnE P w K mg base 17 "depth_in" s_depth_in ["node", "deep"] (G_depth_in 16)) (h_parts_in : FnE P w K mg base 17 "parts_in" s_parts_in ["node", "many"] (G_parts_in 16)) (h_need_size : FnE P w K mg base 1 "need_size" s_need_size ["deep", "many"] G_need_size) : MeE P w K mg base 18 "Term" "replaced" "Term.replaced" s_Term_replaced ["self", "terms"] G_Term_replaced := me_e T.f_Term_replaced sc_Term_replaced fun f cdv A outer s H E hr tk => by
    exact (psm_cons (psm_set 2 (pm_callE h_depth_in hr (by decide) tk (pam_cons (pm_fld T.fl_Term_node (pm_var 0)) (pam_cons (pm_dc (own := [("name", 4)]) rfl sc_Term_replaced.nd (pim_dict (pm_var 1)) (show blkC ["self", "terms", "deep", "many", "name"] (defScope s_Term_replaced) _ [("name", 4)] = true by decide +kernel) ⟨fun _ _ _ _ _ => (pgm_name 4 sc_Term_replaced.nd), fun _ _ _ _ _ => ptsm_nil, fun _ _ _ _ _ => (pm_var 4), fun _ _ _ _ _ => (pm_fld T.fl_Term_deep (pm_dget (hu_of hr) (pm_var 1) (pm_var 4)))⟩) pam_nil))) sc_Term_replaced.nd)
      (psm_cons (psm_set 3 (pm_callE h_parts_in hr (by decide) tk (pam_cons (pm_fld T.fl_Term_node (pm_var 0)) (pam_cons (pm_dc (own := [("name", 4)]) rfl sc_Term_replaced.nd (pim_dict (pm_var 1)) (show blkC ["self", "terms", "deep", "many", "name"] (defScope s_Term_replaced) _ [("name", 4)] = true by decide +kernel) ⟨fun _ _ _ _ _ => (pgm_name 4 sc_Term_replaced.nd), fun _ _ _ _ _ => ptsm_nil, fun _ _ _ _ _ => (pm_var 4), fun _ _ _ _ _ => (pm_fld T.fl_Term_part_count (pm_dget (hu_of hr) (pm_var 1) (pm_var 4)))⟩) pam_nil))) sc_Term_replaced.nd)
      (psm_cons (psm_expr (pm_callE h_need_size hr (by decide) tk (pam_cons (pm_var 2) (pam_cons (pm_var 3) pam_nil))))
      (psm_one (psm_ret (pm_make h_Term___init__ hr (by decide) tk (pam_cons (pm_callE h_put_in hr (by decide) tk (pam_cons (pm_fld T.fl_Term_node (pm_var 0)) (pam_cons (pm_dc (own := [("name", 4)]) rfl sc_Term_replaced.nd (pim_dict (pm_var 1)) (show blkC ["self", "terms", "deep", "many", "name"] (defScope s_Term_replaced) _ [("name", 4)] = true by decide +kernel) ⟨fun _ _ _ _ _ => (pgm_name 4 sc_Term_replaced.nd), fun _ _ _ _ _ => ptsm_nil, fun _ _ _ _ _ => (pm_var 4), fun _ _ _ _ _ => (pm_fld T.fl_Term_node (pm_dget (hu_of hr) (pm_var 1) (pm_var 4)))⟩) pam_nil))) (pam_cons (pm_var 2) (pam_cons (pm_var 3) pam_nil)))))))))
theorem sc_Term_filled : FnScope ["self", "terms", "name"] ["self", "terms"] (defScope s_Term_filled) := ⟨rfl, rfl, rfl, by decide +kernel, rfl, by decide +kernel, by decide +kernel⟩
theorem ok_Term_filled (T : Txt w K mg) (hP : REX.PrgOk P "/claim/cut.py") (h_Term_of : StE P w K mg base 3 "Term" "of" "Term.of" s_Term_of ["value"] G_Term_of) (h_Term_names : MeE P w K mg base 12 "Term" "names" "Term.names" s_Term_names ["self"] G_Term_names) (h_Term_replaced : MeE P w K mg base 18 "Term" "replaced" "Term.replaced" s_Term_replaced ["self", "terms"] G_Term_replaced) : KwE P w K mg base 19 "Term" "filled" "Term.filled" s_Term_filled ["self"] "terms" G_Term_filled := kw_e (k := 18) (ps := ["self"]) (pd := "terms") T.f_Term_filled sc_Term_filled fun f cdv A outer s H E hr tk => by
    exact (psm_one (psm_ret (pm_meth h_Term_replaced hr (by decide) tk (pm_var 0) (pam_cons (pm_dcX (own := [("name", 2)]) rfl tk rfl rfl sc_Term_filled.nd (pim_any (pm_meth0 h_Term_names hr (by decide) tk (pm_var 0))) (show blkC ["self", "terms", "name"] (defScope s_Term_filled) _ [("name", 2)] = true by decide +kernel) ⟨fun _ _ _ _ _ => (pgm_name 2 sc_Term_filled.nd), fun _ _ _ _ _ => (ptsm_one (ptm_cmp (om_dIn (hu_of hr)) (pm_var 2) (pm_var 1))), fun _ _ _ _ _ => (pm_var 2), fun _ _ _ _ _ _ tk => (pm_stat h_Term_of hr (by decide) tk (pam_cons (pm_dget (hu_of hr) (pm_var 1) (pm_var 2)) pam_nil))⟩) pam_nil))))
theorem sc_node_text : FnScope ["node", "word"] ["node"] (defScope s_node_text) := ⟨rfl, rfl, rfl, by decide +kernel, rfl, by decide +kernel, by decide +kernel⟩
theorem ok_node_text (T : Txt w K mg) (hP : REX.PrgOk P "/claim/cut.py") : ∀ n : Nat, FnE P w K mg base (0 + n) "node_text" s_node_text ["node"] (G_node_text n)
  | 0 => fnE_bad T.f_node_text
  | n + 1 => fn_e T.f_node_text sc_node_text fun f cdv A outer s H E hr tk => by
    have h_node_text := ok_node_text T hP n
    exact (psm_cons (psm_set 1 (pm_ix (pm_var 0) pm_int) sc_node_text.nd)
      (psm_cons (psm_if (ptm_cmp (om_in (hu65 hr)) (pm_var 1) (pm_tup (pam_cons pm_str (pam_cons pm_str pam_nil)))) (psm_one (psm_ret (pm_var 1))) psm_nil)
      (psm_cons (psm_if (ptm_cmp (om_eq (hu64 hr)) (pm_var 1) pm_str) (psm_one (psm_ret (pm_ix (pm_var 0) pm_int))) psm_nil)
      (psm_cons (psm_if (ptm_cmp (om_eq (hu64 hr)) (pm_var 1) pm_str) (psm_one (psm_ret (pm_bin om_add pm_str (pm_callE h_node_text hr (Nat.le_refl _) tk (pam_cons (pm_ix (pm_var 0) pm_int) pam_nil))))) psm_nil)
      (psm_cons (psm_if (ptm_cmp (om_in (hu65 hr)) (pm_var 1) (pm_glob T.c_WORDS)) (psm_one (psm_ret (pm_joined (.cons (pm_fmt (pm_var 1)) (.cons pm_str (.cons (pm_fmt (pm_callE h_node_text hr (Nat.le_refl _) tk (pam_cons (pm_ix (pm_var 0) pm_int) pam_nil))) (.cons pm_str .nil))))))) psm_nil)
      (psm_one (psm_ret (pm_joined (.cons pm_str (.cons (pm_fmt (pm_callE h_node_text hr (Nat.le_refl _) tk (pam_cons (pm_ix (pm_var 0) pm_int) pam_nil))) (.cons pm_str (.cons (pm_fmt (pm_cdict T.d_SHOWN (pm_var 1))) (.cons pm_str (.cons (pm_fmt (pm_callE h_node_text hr (Nat.le_refl _) tk (pam_cons (pm_ix (pm_var 0) pm_int) pam_nil))) (.cons pm_str .nil)))))))))))))))
theorem sc_Term_text : FnScope ["self"] ["self"] (defScope s_Term_text) := ⟨rfl, rfl, rfl, by decide +kernel, rfl, by decide +kernel, by decide +kernel⟩
theorem ok_Term_text (T : Txt w K mg) (hP : REX.PrgOk P "/claim/cut.py") (h_node_text : FnE P w K mg base 24 "node_text" s_node_text ["node"] (G_node_text 24)) : MeE P w K mg base 25 "Term" "text" "Term.text" s_Term_text ["self"] G_Term_text := me_e T.f_Term_text sc_Term_text fun f cdv A outer s H E hr tk => by
    exact (psm_one (psm_ret (pm_callE h_node_text hr (by decide) tk (pam_cons (pm_fld T.fl_Term_node (pm_var 0)) pam_nil))))
theorem sc_Statement___init__ : FnScope ["self", "relation", "one", "other"] ["self", "relation", "one", "other"] (defScope s_Statement___init__) := ⟨rfl, rfl, rfl, by decide +kernel, rfl, by decide +kernel, by decide +kernel⟩
theorem ok_Statement___init__ (T : Txt w K mg) : MkE P w K mg base 1 "Statement" ["own_relation", "own_one", "own_other"] := mk_e (l := [("own_relation", 1), ("own_one", 2), ("own_other", 3)]) T.f_Statement___init__ sc_Statement___init__ rfl rfl (by decide) (by decide) rfl (by decide) fun C f cdv A outer s H E hc hn => by
    exact (psi_cons (x0 := "self") hc (hn _ (by simp)) (psi_cons (x0 := "self") hc (hn _ (by simp)) (psi_cons (x0 := "self") hc (hn _ (by simp)) psi_nil)))
theorem sc_Statement_replaced : FnScope ["self", "terms", "one"] ["self", "terms"] (defScope s_Statement_replaced) := ⟨rfl, rfl, rfl, by decide +kernel, rfl, by decide +kernel, by decide +kernel⟩
theorem ok_Statement_replaced (T : Txt w K mg) (hP : REX.PrgOk P "/claim/cut.py") (h_Term_filled : KwE P w K mg base 19 "Term" "filled" "Term.filled" s_Term_filled ["self"] "terms" G_Term_filled) (h_Statement___init__ : MkE P w K mg base 1 "Statement" ["own_relation", "own_one", "own_other"]) : MeE P w K mg base 20 "Statement" "replaced" "Statement.replaced" s_Statement_replaced ["self", "terms"] G_Statement_replaced := me_e T.f_Statement_replaced sc_Statement_replaced fun f cdv A outer s H E hr tk => by
    exact (psm_cons (psm_set 2 (pm_methDDv 1 h_Term_filled T.bm_Term_filled hr (by decide) tk (pm_fld T.fl_Statement_own_one (pm_var 0))) sc_Statement_replaced.nd)
      (psm_one (psm_ret (pm_make h_Statement___init__ hr (by decide) tk (pam_cons (pm_fld T.fl_Statement_own_relation (pm_var 0)) (pam_cons (pm_var 2) (pam_cons (pm_ifExp (ptm_cmp om_is (pm_fld T.fl_Statement_own_other (pm_var 0)) pm_non) pm_non (pm_methDDv 1 h_Term_filled T.bm_Term_filled hr (by decide) tk (pm_fld T.fl_Statement_own_other (pm_var 0)))) pam_nil)))))))
theorem sc_Statement_filled : FnScope ["self", "terms"] ["self", "terms"] (defScope s_Statement_filled) := ⟨rfl, rfl, rfl, by decide +kernel, rfl, by decide +kernel, by decide +kernel⟩
theorem ok_Statement_filled (T : Txt w K mg) (hP : REX.PrgOk P "/claim/cut.py") (h_Statement_replaced : MeE P w K mg base 20 "Statement" "replaced" "Statement.replaced" s_Statement_replaced ["self", "terms"] G_Statement_replaced) : KwE P w K mg base 21 "Statement" "filled" "Statement.filled" s_Statement_filled ["self"] "terms" G_Statement_filled := kw_e (k := 20) (ps := ["self"]) (pd := "terms") T.f_Statement_filled sc_Statement_filled fun f cdv A outer s H E hr tk => by
    exact (psm_one (psm_ret (pm_meth h_Statement_replaced hr (by decide) tk (pm_var 0) (pam_cons (pm_var 1) pam_nil))))
theorem sc_Term___str__ : FnScope ["self"] ["self"] (defScope s_Term___str__) := ⟨rfl, rfl, rfl, by decide +kernel, rfl, by decide +kernel, by decide +kernel⟩
theorem ok_Term___str__ (T : Txt w K mg) (hP : REX.PrgOk P "/claim/cut.py") (h_Term_text : MeE P w K mg base 25 "Term" "text" "Term.text" s_Term_text ["self"] G_Term_text) : MeE P w K mg base 26 "Term" "__str__" "Term.__str__" s_Term___str__ ["self"] G_Term___str__ := me_e T.f_Term___str__ sc_Term___str__ fun f cdv A outer s H E hr tk => by
    exact (psm_one (psm_ret (pm_joined1 (pm_fmt (pm_meth0 h_Term_text hr (by decide) tk (pm_var 0))))))
theorem sc_Statement_text : FnScope ["self"] ["self"] (defScope s_Statement_text) := ⟨rfl, rfl, rfl, by decide +kernel, rfl, by decide +kernel, by decide +kernel⟩
theorem ok_Statement_text (T : Txt w K mg) (hP : REX.PrgOk P "/claim/cut.py") (h_Term___str__ : MeE P w K mg base 26 "Term" "__str__" "Term.__str__" s_Term___str__ ["self"] G_Term___str__) : MeE P w K mg base 29 "Statement" "text" "Statement.text" s_Statement_text ["self"] G_Statement_text := me_e T.f_Statement_text sc_Statement_text fun f cdv A outer s H E hr tk => by
    exact (psm_cons (psm_if (ptm_cmp (om_eq (hu64 hr)) (pm_fld T.fl_Statement_own_relation (pm_var 0)) pm_str) (psm_one (psm_ret (pm_joined (.cons (pm_fmtO T.fm_Term h_Term___str__ hr (by decide) tk (pm_fld T.fl_Statement_own_one (pm_var 0))) (.cons (pm_fmt (pm_glob T.c_EMPTY)) .nil))))) psm_nil)
      (psm_one (psm_ret (pm_joined (.cons (pm_fmtO T.fm_Term h_Term___str__ hr (by decide) tk (pm_fld T.fl_Statement_own_one (pm_var 0))) (.cons (pm_fmt (pm_cdict T.d_MIDDLES (pm_fld T.fl_Statement_own_relation (pm_var 0)))) (.cons (pm_fmtO T.fm_Term h_Term___str__ hr (by decide) tk (pm_fld T.fl_Statement_own_other (pm_var 0))) .nil)))))))
theorem sc__law_cells : FnScope ["_law_script", "_law_seed", "_law_cell"] ["_law_script"] (defScope s__law_cells) := ⟨rfl, rfl, rfl, by decide +kernel, rfl, by decide +kernel, by decide +kernel⟩
theorem ok__law_cells (T : Txt w K mg) (hP : REX.PrgOk P "/claim/cut.py") : FnE P w K mg base 1 "_law_cells" s__law_cells ["_law_script"] G__law_cells := fn_e T.f__law_cells sc__law_cells fun f cdv A outer s H E hr tk => by
    exact (psm_cons (psm_set 1 pm_int sc__law_cells.nd)
      (psm_cons (psm_for (vs := [2]) (passes_of rfl) rfl (pim_any (pm_slice (pm_var 0) pom_none (pom_some pm_int))) (pgm_name 2 sc__law_cells.nd) (psm_one (psm_set 1 (pm_bin om_mod (pm_callTy cm_int T.z_int (pam_cons (pm_bin om_add (pm_bin om_add (pm_bin om_mul (pm_var 1) pm_int) (pm_bin om_mod (pm_callTy cm_int T.z_int (pam_cons (pm_var 2) pam_nil)) pm_int)) pm_int) pam_nil)) pm_int) sc__law_cells.nd)))
      (psm_one (psm_ret (pm_lstR (pam_cons (pm_callTy cm_list T.z_list (pam_cons (pm_slice (pm_var 0) pom_none (pom_some pm_int)) pam_nil)) (pam_cons pm_int (pam_cons pm_int (pam_cons (pm_var 1) (pam_cons pm_int pam_nil))))))))))
theorem sc__law_draw : FnScope ["_law_bag", "_law_sides", "_law_seed", "_law_cell", "_law_digit"] ["_law_bag", "_law_sides"] (defScope s__law_draw) := ⟨rfl, rfl, rfl, by decide +kernel, rfl, by decide +kernel, by decide +kernel⟩
theorem ok__law_draw (T : Txt w K mg) (hP : REX.PrgOk P "/claim/cut.py") : FnE P w K mg base 1 "_law_draw" s__law_draw ["_law_bag", "_law_sides"] G__law_draw := fn_e T.f__law_draw sc__law_draw fun f cdv A outer s H E hr tk => by
    exact (psm_cons (psm_asg (vs := []) (pm_bin om_add (pm_ix (pm_var 0) pm_int) pm_int) (pgm_sub (pm_var 0) pm_int))
      (psm_cons (psm_if (PWM.pt (pwm_and (ptm_cmp (om_eq (hu64 hr)) (pm_ix (pm_var 0) pm_int) pm_int) (pwm_and1 (ptm_cmp om_lt (pm_ix (pm_var 0) pm_int) (pm_callB cm_len T.z_len (pam_cons (pm_ix (pm_var 0) pm_int) pam_nil)))))) (psm_cons (psm_set 3 (pm_ix (pm_ix (pm_var 0) pm_int) (pm_ix (pm_var 0) pm_int)) sc__law_draw.nd)
      (psm_cons (psm_asg (vs := []) (pm_bin om_add (pm_ix (pm_var 0) pm_int) pm_int) (pgm_sub (pm_var 0) pm_int))
      (psm_one (psm_if (ptm_cmp om_ge (pm_var 3) (pm_bin om_pow pm_int pm_int)) (psm_one (psm_asg (vs := []) (pm_var 3) (pgm_sub (pm_var 0) pm_int))) (psm_one (psm_asg (vs := []) (pm_bin om_mod (pm_callTy cm_int T.z_int (pam_cons (pm_bin om_add (pm_bin om_add (pm_bin om_mul (pm_ix (pm_var 0) pm_int) pm_int) (pm_bin om_mul (pm_bin om_mod (pm_callTy cm_int T.z_int (pam_cons (pm_var 3) pam_nil)) pm_int) pm_int)) pm_int) pam_nil)) pm_int) (pgm_sub (pm_var 0) pm_int))))))) psm_nil)
      (psm_cons (psm_if (ptm_cmp om_gt (pm_ix (pm_var 0) pm_int) pm_int) (psm_cons (psm_set 4 (pm_bin om_mod (pm_callTy cm_int T.z_int (pam_cons (pm_ix (pm_var 0) pm_int) pam_nil)) (pm_var 1)) sc__law_draw.nd)
      (psm_cons (psm_asg (vs := []) (pm_bin om_div (pm_ix (pm_var 0) pm_int) (pm_var 1)) (pgm_sub (pm_var 0) pm_int))
      (psm_one (psm_ret (pm_var 4))))) psm_nil)
      (psm_cons (psm_set 2 (pm_ix (pm_var 0) pm_int) sc__law_draw.nd)
      (psm_cons (psm_asg (vs := []) (pm_bin om_mod (pm_callTy cm_int T.z_int (pam_cons (pm_bin om_add (pm_bin om_add (pm_bin om_add (pm_bin om_mul (pm_bin om_mul (pm_var 2) (pm_var 2)) pm_int) (pm_bin om_mul (pm_var 2) pm_int)) (pm_bin om_mul (pm_ix (pm_var 0) pm_int) pm_int)) pm_int) pam_nil)) pm_int) (pgm_sub (pm_var 0) pm_int))
      (psm_one (psm_ret (pm_bin om_mod (pm_callTy cm_int T.z_int (pam_cons (pm_bin om_add (pm_bin om_div (pm_ix (pm_var 0) pm_int) pm_int) (pm_bin om_mul (pm_bin om_mod (pm_callTy cm_int T.z_int (pam_cons (pm_ix (pm_var 0) pm_int) pam_nil)) pm_int) pm_int)) pam_nil)) (pm_var 1)))))))))
theorem sc__law_one : FnScope ["_law_bag", "_law_things"] ["_law_bag", "_law_things"] (defScope s__law_one) := ⟨rfl, rfl, rfl, by decide +kernel, rfl, by decide +kernel, by decide +kernel⟩
theorem ok__law_one (T : Txt w K mg) (hP : REX.PrgOk P "/claim/cut.py") (h__law_draw : FnE P w K mg base 1 "_law_draw" s__law_draw ["_law_bag", "_law_sides"] G__law_draw) : FnE P w K mg base 2 "_law_one" s__law_one ["_law_bag", "_law_things"] G__law_one := fn_e T.f__law_one sc__law_one fun f cdv A outer s H E hr tk => by
    exact (psm_one (psm_ret (pm_ix (pm_var 1) (pm_callE h__law_draw hr (by decide) tk (pam_cons (pm_var 0) (pam_cons (pm_callB cm_len T.z_len (pam_cons (pm_var 1) pam_nil)) pam_nil))))))
theorem sc__law_same : FnScope ["_law_found", "_law_due", "_law_a", "_law_b"] ["_law_found", "_law_due"] (defScope s__law_same) := ⟨rfl, rfl, rfl, by decide +kernel, rfl, by decide +kernel, by decide +kernel⟩
theorem ok__law_same (T : Txt w K mg) (hP : REX.PrgOk P "/claim/cut.py") : ∀ n : Nat, FnE P w K mg base (0 + n) "_law_same" s__law_same ["_law_found", "_law_due"] (G__law_same n)
  | 0 => fnE_bad T.f__law_same
  | n + 1 => fn_e T.f__law_same sc__law_same fun f cdv A outer s H E hr tk => by
    have h__law_same := ok__law_same T hP n
    exact (psm_cons (psm_if (ptm_tru (pm_callB (cm_isi ktB_ok) T.z_isinstance (pam_cons (pm_var 1) (pam_cons (pm_tup (pam_cons (pm_ty (n := "list") T.z_list) (pam_cons (pm_ty (n := "tuple") T.z_tuple) pam_nil))) pam_nil)))) (psm_cons (psm_if (PWM.pt (pwm_or (ptm_cmp (om_ne (hu64 hr)) (pm_callB (cm_isi ktB_ok) T.z_isinstance (pam_cons (pm_var 0) (pam_cons (pm_ty (n := "list") T.z_list) pam_nil))) (pm_callB (cm_isi ktB_ok) T.z_isinstance (pam_cons (pm_var 1) (pam_cons (pm_ty (n := "list") T.z_list) pam_nil)))) (pwm_or1 (ptm_cmp (om_ne (hu64 hr)) (pm_callB (cm_isi ktB_ok) T.z_isinstance (pam_cons (pm_var 0) (pam_cons (pm_ty (n := "tuple") T.z_tuple) pam_nil))) (pm_callB (cm_isi ktB_ok) T.z_isinstance (pam_cons (pm_var 1) (pam_cons (pm_ty (n := "tuple") T.z_tuple) pam_nil))))))) (psm_one (psm_ret pm_bl)) psm_nil)
      (psm_one (psm_ret (pm_and (pm_cmp (om_eq (hu64 hr)) (pm_callB cm_len T.z_len (pam_cons (pm_var 0) pam_nil)) (pm_callB cm_len T.z_len (pam_cons (pm_var 1) pam_nil))) (pm_one (pm_callB (cm_all rfl) T.z_all (pam_cons (pm_lc (own := [("_law_a", 2), ("_law_b", 3)]) rfl sc__law_same.nd (pim_zip T.z_zip (pam_cons (pm_var 0) (pam_cons (pm_var 1) pam_nil))) (show blkC ["_law_found", "_law_due", "_law_a", "_law_b"] (defScope s__law_same) _ [("_law_a", 2), ("_law_b", 3)] = true by decide +kernel) ⟨fun _ _ _ _ _ => (pgm_tup (n := 2) rfl (pgm_cons (pgm_name 2 sc__law_same.nd) (pgm_cons (pgm_name 3 sc__law_same.nd) pgm_nil))), fun _ _ _ _ _ => ptsm_nil, fun _ _ _ _ _ => (pm_callE h__law_same hr (Nat.le_refl _) takesE0 (pam_cons (pm_var 2) (pam_cons (pm_var 3) pam_nil)))⟩) pam_nil))))))) psm_nil)
      (psm_cons (psm_if (PWM.pt (pwm_or (ptm_cmp om_is (pm_var 1) pm_non) (pwm_or1 (ptm_cmp om_is (pm_var 0) pm_non)))) (psm_one (psm_ret (pm_and (pm_cmp om_is (pm_var 1) pm_non) (pm_one (pm_cmp om_is (pm_var 0) pm_non))))) psm_nil)
      (psm_cons (psm_if (PWM.pt (pwm_or (ptm_cmp (om_ne (hu64 hr)) (pm_callB (cm_isi ktB_ok) T.z_isinstance (pam_cons (pm_var 1) (pam_cons (pm_ty (n := "bool") T.z_bool) pam_nil))) (pm_callB (cm_isi ktB_ok) T.z_isinstance (pam_cons (pm_var 0) (pam_cons (pm_ty (n := "bool") T.z_bool) pam_nil)))) (pwm_or1 (ptm_cmp (om_ne (hu64 hr)) (pm_callB (cm_isi ktB_ok) T.z_isinstance (pam_cons (pm_var 1) (pam_cons (pm_ty (n := "int") T.z_int) pam_nil))) (pm_callB (cm_isi ktB_ok) T.z_isinstance (pam_cons (pm_var 0) (pam_cons (pm_ty (n := "int") T.z_int) pam_nil))))))) (psm_one (psm_ret pm_bl)) psm_nil)
      (psm_one (psm_ret (pm_and (pm_cmp (om_eq (hu64 hr)) (pm_callB (cm_isi ktB_ok) T.z_isinstance (pam_cons (pm_var 1) (pam_cons (pm_ty (n := "str") T.z_str) pam_nil))) (pm_callB (cm_isi ktB_ok) T.z_isinstance (pam_cons (pm_var 0) (pam_cons (pm_ty (n := "str") T.z_str) pam_nil)))) (pm_one (pm_cmp (om_eq (hu64 hr)) (pm_var 0) (pm_var 1)))))))))
theorem sc__law_leaf : FnScope ["_law_bag", "_law_names"] ["_law_bag", "_law_names"] (defScope s__law_leaf) := ⟨rfl, rfl, rfl, by decide +kernel, rfl, by decide +kernel, by decide +kernel⟩
theorem ok__law_leaf (T : Txt w K mg) (hP : REX.PrgOk P "/claim/cut.py") (h__law_draw : FnE P w K mg base 1 "_law_draw" s__law_draw ["_law_bag", "_law_sides"] G__law_draw) (h__law_one : FnE P w K mg base 2 "_law_one" s__law_one ["_law_bag", "_law_things"] G__law_one) : FnE P w K mg base 3 "_law_leaf" s__law_leaf ["_law_bag", "_law_names"] G__law_leaf := fn_e T.f__law_leaf sc__law_leaf fun f cdv A outer s H E hr tk => by
    exact (psm_cons (psm_if (PWM.pt (pwm_or (ptm_cmp (om_eq (hu64 hr)) (pm_var 1) (pm_lst pam_nil)) (pwm_or1 (ptm_cmp (om_eq (hu64 hr)) (pm_callE h__law_draw hr (by decide) tk (pam_cons (pm_var 0) (pam_cons pm_int pam_nil))) pm_int)))) (psm_one (psm_ret (pm_callE h__law_one hr (by decide) tk (pam_cons (pm_var 0) (pam_cons (pm_lst (pam_cons (pm_tup (pam_cons pm_str pam_nil)) (pam_cons (pm_tup (pam_cons pm_str pam_nil)) pam_nil))) pam_nil))))) psm_nil)
      (psm_one (psm_ret (pm_tup (pam_cons pm_str (pam_cons (pm_callE h__law_one hr (by decide) tk (pam_cons (pm_var 0) (pam_cons (pm_var 1) pam_nil))) pam_nil))))))
theorem sc__law_form : FnScope ["_law_bag", "_law_names", "_law_deep", "_law_way", "_law_one_here"] ["_law_bag", "_law_names", "_law_deep"] (defScope s__law_form) := ⟨rfl, rfl, rfl, by decide +kernel, rfl, by decide +kernel, by decide +kernel⟩
theorem ok__law_form (T : Txt w K mg) (hP : REX.PrgOk P "/claim/cut.py") (h__law_draw : FnE P w K mg base 1 "_law_draw" s__law_draw ["_law_bag", "_law_sides"] G__law_draw) (h__law_leaf : FnE P w K mg base 3 "_law_leaf" s__law_leaf ["_law_bag", "_law_names"] G__law_leaf) : ∀ n : Nat, FnE P w K mg base (3 + n) "_law_form" s__law_form ["_law_bag", "_law_names", "_law_deep"] (G__law_form n)
  | 0 => fnE_bad T.f__law_form
  | n + 1 => fn_e T.f__law_form sc__law_form fun f cdv A outer s H E hr tk => by
    have h__law_form := ok__law_form T hP h__law_draw h__law_leaf n
    exact (psm_cons (psm_set 3 (pm_callE h__law_draw hr (Nat.le_trans (by decide : 1 ≤ 3) (Nat.le_add_right 3 _)) tk (pam_cons (pm_var 0) (pam_cons pm_int pam_nil))) sc__law_form.nd)
      (psm_cons (psm_if (PWM.pt (pwm_or (ptm_cmp om_lt (pm_var 2) pm_int) (pwm_or1 (ptm_cmp (om_eq (hu64 hr)) (pm_var 3) pm_int)))) (psm_one (psm_ret (pm_callE h__law_leaf hr (Nat.le_trans (by decide : 3 ≤ 3) (Nat.le_add_right 3 _)) tk (pam_cons (pm_var 0) (pam_cons (pm_var 1) pam_nil))))) psm_nil)
      (psm_cons (psm_set 4 (pm_callE h__law_form hr (Nat.le_refl _) tk (pam_cons (pm_var 0) (pam_cons (pm_var 1) (pam_cons (pm_bin om_sub (pm_var 2) pm_int) pam_nil)))) sc__law_form.nd)
      (psm_cons (psm_if (ptm_cmp om_lt (pm_var 3) pm_int) (psm_one (psm_ret (pm_tup (pam_cons (pm_ix (pm_lst (pam_cons pm_str (pam_cons pm_str (pam_cons pm_str (pam_cons pm_str pam_nil))))) (pm_bin om_sub (pm_var 3) pm_int)) (pam_cons (pm_var 4) pam_nil))))) psm_nil)
      (psm_one (psm_ret (pm_tup (pam_cons (pm_ix (pm_lst (pam_cons pm_str (pam_cons pm_str (pam_cons pm_str (pam_cons pm_str pam_nil))))) (pm_bin om_sub (pm_var 3) pm_int)) (pam_cons (pm_var 4) (pam_cons (pm_callE h__law_form hr (Nat.le_refl _) tk (pam_cons (pm_var 0) (pam_cons (pm_var 1) (pam_cons (pm_bin om_sub (pm_var 2) pm_int) pam_nil)))) pam_nil))))))))))
theorem sc__law_text : FnScope ["_law_form_here"] ["_law_form_here"] (defScope s__law_text) := ⟨rfl, rfl, rfl, by decide +kernel, rfl, by decide +kernel, by decide +kernel⟩
theorem ok__law_text (T : Txt w K mg) (hP : REX.PrgOk P "/claim/cut.py") : ∀ n : Nat, FnE P w K mg base (0 + n) "_law_text" s__law_text ["_law_form_here"] (G__law_text n)
  | 0 => fnE_bad T.f__law_text
  | n + 1 => fn_e T.f__law_text sc__law_text fun f cdv A outer s H E hr tk => by
    have h__law_text := ok__law_text T hP n
    exact (psm_cons (psm_if (ptm_cmp (om_in (hu65 hr)) (pm_ix (pm_var 0) pm_int) (pm_tup (pam_cons pm_str (pam_cons pm_str pam_nil)))) (psm_one (psm_ret (pm_ix (pm_var 0) pm_int))) psm_nil)
      (psm_cons (psm_if (ptm_cmp (om_eq (hu64 hr)) (pm_ix (pm_var 0) pm_int) pm_str) (psm_one (psm_ret (pm_ix (pm_var 0) pm_int))) psm_nil)
      (psm_cons (psm_if (ptm_cmp (om_eq (hu64 hr)) (pm_ix (pm_var 0) pm_int) pm_str) (psm_one (psm_ret (pm_bin om_add pm_str (pm_callE h__law_text hr (Nat.le_refl _) tk (pam_cons (pm_ix (pm_var 0) pm_int) pam_nil))))) psm_nil)
      (psm_cons (psm_if (ptm_cmp (om_in (hu65 hr)) (pm_ix (pm_var 0) pm_int) (pm_tup (pam_cons pm_str (pam_cons pm_str (pam_cons pm_str pam_nil))))) (psm_one (psm_ret (pm_bin om_add (pm_bin om_add (pm_bin om_add (pm_ix (pm_var 0) pm_int) pm_str) (pm_callE h__law_text hr (Nat.le_refl _) tk (pam_cons (pm_ix (pm_var 0) pm_int) pam_nil))) pm_str))) psm_nil)
      (psm_one (psm_ret (pm_bin om_add (pm_bin om_add (pm_bin om_add (pm_bin om_add pm_str (pm_callE h__law_text hr (Nat.le_refl _) tk (pam_cons (pm_ix (pm_var 0) pm_int) pam_nil))) (pm_dget (hu_of hr) (pm_disp (ppm_cons pm_str pm_str (ppm_cons pm_str pm_str (ppm_cons pm_str pm_str ppm_nil)))) (pm_ix (pm_var 0) pm_int))) (pm_callE h__law_text hr (Nat.le_refl _) tk (pam_cons (pm_ix (pm_var 0) pm_int) pam_nil))) pm_str)))))))
theorem sc_Term_whole : FnScope [] [] (defScope s_Term_whole) := ⟨rfl, rfl, rfl, by decide +kernel, rfl, by decide +kernel, by decide +kernel⟩
theorem ok_Term_whole (T : Txt w K mg) (hP : REX.PrgOk P "/claim/cut.py") (h_Term___init__ : MkE P w K mg base 1 "Term" ["node", "deep", "part_count"]) : StE P w K mg base 3 "Term" "whole" "Term.whole" s_Term_whole [] G_Term_whole := st_e T.f_Term_whole sc_Term_whole fun f cdv A outer s H E hr tk => by
    exact (psm_one (psm_ret (pm_make h_Term___init__ hr (by decide) tk (pam_cons (pm_tup (pam_cons pm_str pam_nil)) (pam_cons pm_int (pam_cons pm_int pam_nil))))))
theorem sc_Term_nothing : FnScope [] [] (defScope s_Term_nothing) := ⟨rfl, rfl, rfl, by decide +kernel, rfl, by decide +kernel, by decide +kernel⟩
theorem ok_Term_nothing (T : Txt w K mg) (hP : REX.PrgOk P "/claim/cut.py") (h_Term___init__ : MkE P w K mg base 1 "Term" ["node", "deep", "part_count"]) : StE P w K mg base 3 "Term" "nothing" "Term.nothing" s_Term_nothing [] G_Term_nothing := st_e T.f_Term_nothing sc_Term_nothing fun f cdv A outer s H E hr tk => by
    exact (psm_one (psm_ret (pm_make h_Term___init__ hr (by decide) tk (pam_cons (pm_tup (pam_cons pm_str pam_nil)) (pam_cons pm_int (pam_cons pm_int pam_nil))))))
theorem sc_joined : FnScope ["word", "values", "terms", "deep", "many", "value", "term"] ["word", "values"] (defScope s_joined) := ⟨rfl, rfl, rfl, by decide +kernel, rfl, by decide +kernel, by decide +kernel⟩
theorem ok_joined (T : Txt w K mg) (hP : REX.PrgOk P "/claim/cut.py") (h_Term___init__ : MkE P w K mg base 1 "Term" ["node", "deep", "part_count"]) (h_Term_of : StE P w K mg base 3 "Term" "of" "Term.of" s_Term_of ["value"] G_Term_of) (h_need_size : FnE P w K mg base 1 "need_size" s_need_size ["deep", "many"] G_need_size) : StarE P w K mg base 4 "joined" 1 G_joined := star_e T.f_joined sc_joined fun f cdv A outer s H E hr tk => by
    exact (psm_cons (psm_setLcX (own := [("value", 5)]) 2 rfl tk rfl rfl sc_joined.nd (pim_any (pm_var 1)) (show blkC ["word", "values", "terms", "deep", "many", "value", "term"] (defScope s_joined) _ [("value", 5)] = true by decide +kernel) ⟨fun _ _ _ _ _ => (pgm_name 5 sc_joined.nd), fun _ _ _ _ _ => ptsm_nil, fun _ _ _ _ _ _ tk => (pm_stat h_Term_of hr (by decide) tk (pam_cons (pm_var 5) pam_nil))⟩)
      (psm_cons (psm_par 3 4 rfl sc_joined.nd (pam_cons (pm_bin om_add pm_int (pm_callB (cm_max rfl) T.z_max (pam_cons (pm_lc (own := [("term", 6)]) rfl sc_joined.nd (pim_any (pm_var 2)) (show blkC ["word", "values", "terms", "deep", "many", "value", "term"] (defScope s_joined) _ [("term", 6)] = true by decide +kernel) ⟨fun _ _ _ _ _ => (pgm_name 6 sc_joined.nd), fun _ _ _ _ _ => ptsm_nil, fun _ _ _ _ _ => (pm_fld T.fl_Term_deep (pm_var 6))⟩) pam_nil))) (pam_cons (pm_bin om_add pm_int (pm_callB (cm_sum rfl) T.z_sum (pam_cons (pm_lc (own := [("term", 6)]) rfl sc_joined.nd (pim_any (pm_var 2)) (show blkC ["word", "values", "terms", "deep", "many", "value", "term"] (defScope s_joined) _ [("term", 6)] = true by decide +kernel) ⟨fun _ _ _ _ _ => (pgm_name 6 sc_joined.nd), fun _ _ _ _ _ => ptsm_nil, fun _ _ _ _ _ => (pm_fld T.fl_Term_part_count (pm_var 6))⟩) pam_nil))) pam_nil)))
      (psm_cons (psm_expr (pm_callE h_need_size hr (by decide) tk (pam_cons (pm_var 3) (pam_cons (pm_var 4) pam_nil))))
      (psm_one (psm_ret (pm_make h_Term___init__ hr (by decide) tk (pam_cons (pm_tup (pam_cons (pm_var 0) (pam_star (pm_lc (own := [("term", 6)]) rfl sc_joined.nd (pim_any (pm_var 2)) (show blkC ["word", "values", "terms", "deep", "many", "value", "term"] (defScope s_joined) _ [("term", 6)] = true by decide +kernel) ⟨fun _ _ _ _ _ => (pgm_name 6 sc_joined.nd), fun _ _ _ _ _ => ptsm_nil, fun _ _ _ _ _ => (pm_fld T.fl_Term_node (pm_var 6))⟩) pam_nil))) (pam_cons (pm_var 3) (pam_cons (pm_var 4) pam_nil)))))))))
theorem sc_Term___or__ : FnScope ["self", "other"] ["self", "other"] (defScope s_Term___or__) := ⟨rfl, rfl, rfl, by decide +kernel, rfl, by decide +kernel, by decide +kernel⟩
theorem ok_Term___or__ (T : Txt w K mg) (hP : REX.PrgOk P "/claim/cut.py") (h_joined : StarE P w K mg base 4 "joined" 1 G_joined) : MeE P w K mg base 5 "Term" "__or__" "Term.__or__" s_Term___or__ ["self", "other"] G_Term___or__ := me_e T.f_Term___or__ sc_Term___or__ fun f cdv A outer s H E hr tk => by
    exact (psm_one (psm_ret (pm_callV h_joined hr (by decide) tk (pam_cons pm_str (pam_cons (pm_var 0) (pam_cons (pm_var 1) pam_nil))))))
theorem sc_Term___ror__ : FnScope ["self", "other"] ["self", "other"] (defScope s_Term___ror__) := ⟨rfl, rfl, rfl, by decide +kernel, rfl, by decide +kernel, by decide +kernel⟩
theorem ok_Term___ror__ (T : Txt w K mg) (hP : REX.PrgOk P "/claim/cut.py") (h_joined : StarE P w K mg base 4 "joined" 1 G_joined) : MeE P w K mg base 5 "Term" "__ror__" "Term.__ror__" s_Term___ror__ ["self", "other"] G_Term___ror__ := me_e T.f_Term___ror__ sc_Term___ror__ fun f cdv A outer s H E hr tk => by
    exact (psm_one (psm_ret (pm_callV h_joined hr (by decide) tk (pam_cons pm_str (pam_cons (pm_var 1) (pam_cons (pm_var 0) pam_nil))))))
theorem sc_Term___and__ : FnScope ["self", "other"] ["self", "other"] (defScope s_Term___and__) := ⟨rfl, rfl, rfl, by decide +kernel, rfl, by decide +kernel, by decide +kernel⟩
theorem ok_Term___and__ (T : Txt w K mg) (hP : REX.PrgOk P "/claim/cut.py") (h_joined : StarE P w K mg base 4 "joined" 1 G_joined) : MeE P w K mg base 5 "Term" "__and__" "Term.__and__" s_Term___and__ ["self", "other"] G_Term___and__ := me_e T.f_Term___and__ sc_Term___and__ fun f cdv A outer s H E hr tk => by
    exact (psm_one (psm_ret (pm_callV h_joined hr (by decide) tk (pam_cons pm_str (pam_cons (pm_var 0) (pam_cons (pm_var 1) pam_nil))))))
theorem sc_Term___rand__ : FnScope ["self", "other"] ["self", "other"] (defScope s_Term___rand__) := ⟨rfl, rfl, rfl, by decide +kernel, rfl, by decide +kernel, by decide +kernel⟩
theorem ok_Term___rand__ (T : Txt w K mg) (hP : REX.PrgOk P "/claim/cut.py") (h_joined : StarE P w K mg base 4 "joined" 1 G_joined) : MeE P w K mg base 5 "Term" "__rand__" "Term.__rand__" s_Term___rand__ ["self", "other"] G_Term___rand__ := me_e T.f_Term___rand__ sc_Term___rand__ fun f cdv A outer s H E hr tk => by
    exact (psm_one (psm_ret (pm_callV h_joined hr (by decide) tk (pam_cons pm_str (pam_cons (pm_var 1) (pam_cons (pm_var 0) pam_nil))))))
theorem sc_Term___sub__ : FnScope ["self", "other"] ["self", "other"] (defScope s_Term___sub__) := ⟨rfl, rfl, rfl, by decide +kernel, rfl, by decide +kernel, by decide +kernel⟩
theorem ok_Term___sub__ (T : Txt w K mg) (hP : REX.PrgOk P "/claim/cut.py") (h_joined : StarE P w K mg base 4 "joined" 1 G_joined) : MeE P w K mg base 5 "Term" "__sub__" "Term.__sub__" s_Term___sub__ ["self", "other"] G_Term___sub__ := me_e T.f_Term___sub__ sc_Term___sub__ fun f cdv A outer s H E hr tk => by
    exact (psm_one (psm_ret (pm_callV h_joined hr (by decide) tk (pam_cons pm_str (pam_cons (pm_var 0) (pam_cons (pm_var 1) pam_nil))))))
theorem sc_Term___rsub__ : FnScope ["self", "other"] ["self", "other"] (defScope s_Term___rsub__) := ⟨rfl, rfl, rfl, by decide +kernel, rfl, by decide +kernel, by decide +kernel⟩
theorem ok_Term___rsub__ (T : Txt w K mg) (hP : REX.PrgOk P "/claim/cut.py") (h_joined : StarE P w K mg base 4 "joined" 1 G_joined) : MeE P w K mg base 5 "Term" "__rsub__" "Term.__rsub__" s_Term___rsub__ ["self", "other"] G_Term___rsub__ := me_e T.f_Term___rsub__ sc_Term___rsub__ fun f cdv A outer s H E hr tk => by
    exact (psm_one (psm_ret (pm_callV h_joined hr (by decide) tk (pam_cons pm_str (pam_cons (pm_var 1) (pam_cons (pm_var 0) pam_nil))))))
theorem sc_Term___invert__ : FnScope ["self"] ["self"] (defScope s_Term___invert__) := ⟨rfl, rfl, rfl, by decide +kernel, rfl, by decide +kernel, by decide +kernel⟩
theorem ok_Term___invert__ (T : Txt w K mg) (hP : REX.PrgOk P "/claim/cut.py") (h_joined : StarE P w K mg base 4 "joined" 1 G_joined) : MeE P w K mg base 5 "Term" "__invert__" "Term.__invert__" s_Term___invert__ ["self"] G_Term___invert__ := me_e T.f_Term___invert__ sc_Term___invert__ fun f cdv A outer s H E hr tk => by
    exact (psm_one (psm_ret (pm_callV h_joined hr (by decide) tk (pam_cons pm_str (pam_cons (pm_var 0) pam_nil)))))
theorem sc_Term_closed : FnScope ["self"] ["self"] (defScope s_Term_closed) := ⟨rfl, rfl, rfl, by decide +kernel, rfl, by decide +kernel, by decide +kernel⟩
theorem ok_Term_closed (T : Txt w K mg) (hP : REX.PrgOk P "/claim/cut.py") (h_joined : StarE P w K mg base 4 "joined" 1 G_joined) : MeE P w K mg base 5 "Term" "closed" "Term.closed" s_Term_closed ["self"] G_Term_closed := me_e T.f_Term_closed sc_Term_closed fun f cdv A outer s H E hr tk => by
    exact (psm_one (psm_ret (pm_callV h_joined hr (by decide) tk (pam_cons pm_str (pam_cons (pm_var 0) pam_nil)))))
theorem sc_Term_opened : FnScope ["self"] ["self"] (defScope s_Term_opened) := ⟨rfl, rfl, rfl, by decide +kernel, rfl, by decide +kernel, by decide +kernel⟩
theorem ok_Term_opened (T : Txt w K mg) (hP : REX.PrgOk P "/claim/cut.py") (h_joined : StarE P w K mg base 4 "joined" 1 G_joined) : MeE P w K mg base 5 "Term" "opened" "Term.opened" s_Term_opened ["self"] G_Term_opened := me_e T.f_Term_opened sc_Term_opened fun f cdv A outer s H E hr tk => by
    exact (psm_one (psm_ret (pm_callV h_joined hr (by decide) tk (pam_cons pm_str (pam_cons (pm_var 0) pam_nil)))))
theorem sc_Term_rim : FnScope ["self"] ["self"] (defScope s_Term_rim) := ⟨rfl, rfl, rfl, by decide +kernel, rfl, by decide +kernel, by decide +kernel⟩
theorem ok_Term_rim (T : Txt w K mg) (hP : REX.PrgOk P "/claim/cut.py") (h_joined : StarE P w K mg base 4 "joined" 1 G_joined) : MeE P w K mg base 5 "Term" "rim" "Term.rim" s_Term_rim ["self"] G_Term_rim := me_e T.f_Term_rim sc_Term_rim fun f cdv A outer s H E hr tk => by
    exact (psm_one (psm_ret (pm_callV h_joined hr (by decide) tk (pam_cons pm_str (pam_cons (pm_var 0) pam_nil)))))
theorem sc__law_term : FnScope ["_law_form_here", "_law_one_here", "_law_other"] ["_law_form_here"] (defScope s__law_term) := ⟨rfl, rfl, rfl, by decide +kernel, rfl, by decide +kernel, by decide +kernel⟩
theorem ok__law_term (T : Txt w K mg) (hP : REX.PrgOk P "/claim/cut.py") (h_Term_of : StE P w K mg base 3 "Term" "of" "Term.of" s_Term_of ["value"] G_Term_of) (h_Term_whole : StE P w K mg base 3 "Term" "whole" "Term.whole" s_Term_whole [] G_Term_whole) (h_Term_nothing : StE P w K mg base 3 "Term" "nothing" "Term.nothing" s_Term_nothing [] G_Term_nothing) (h_Term___or__ : MeE P w K mg base 5 "Term" "__or__" "Term.__or__" s_Term___or__ ["self", "other"] G_Term___or__) (h_Term___ror__ : MeE P w K mg base 5 "Term" "__ror__" "Term.__ror__" s_Term___ror__ ["self", "other"] G_Term___ror__) (h_Term___and__ : MeE P w K mg base 5 "Term" "__and__" "Term.__and__" s_Term___and__ ["self", "other"] G_Term___and__) (h_Term___rand__ : MeE P w K mg base 5 "Term" "__rand__" "Term.__rand__" s_Term___rand__ ["self", "other"] G_Term___rand__) (h_Term___sub__ : MeE P w K mg base 5 "Term" "__sub__" "Term.__sub__" s_Term___sub__ ["self", "other"] G_Term___sub__) (h_Term___rsub__ : MeE P w K mg base 5 "Term" "__rsub__" "Term.__rsub__" s_Term___rsub__ ["self", "other"] G_Term___rsub__) (h_Term___invert__ : MeE P w K mg base 5 "Term" "__invert__" "Term.__invert__" s_Term___invert__ ["self"] G_Term___invert__) (h_Term_closed : MeE P w K mg base 5 "Term" "closed" "Term.closed" s_Term_closed ["self"] G_Term_closed) (h_Term_opened : MeE P w K mg base 5 "Term" "opened" "Term.opened" s_Term_opened ["self"] G_Term_opened) (h_Term_rim : MeE P w K mg base 5 "Term" "rim" "Term.rim" s_Term_rim ["self"] G_Term_rim) : ∀ n : Nat, FnE P w K mg base (5 + n) "_law_term" s__law_term ["_law_form_here"] (G__law_term n)
  | 0 => fnE_bad T.f__law_term
  | n + 1 => fn_e T.f__law_term sc__law_term fun f cdv A outer s H E hr tk => by
    have h__law_term := ok__law_term T hP h_Term_of h_Term_whole h_Term_nothing h_Term___or__ h_Term___ror__ h_Term___and__ h_Term___rand__ h_Term___sub__ h_Term___rsub__ h_Term___invert__ h_Term_closed h_Term_opened h_Term_rim n
    exact (psm_cons (psm_if (ptm_cmp (om_in (hu65 hr)) (pm_ix (pm_var 0) pm_int) (pm_tup (pam_cons pm_str (pam_cons pm_str pam_nil)))) (psm_one (psm_ret (pm_ifExp (ptm_cmp (om_eq (hu64 hr)) (pm_ix (pm_var 0) pm_int) pm_str) (pm_stat0 h_Term_whole hr (Nat.le_trans (by decide : 3 ≤ 5) (Nat.le_add_right 5 _)) tk) (pm_stat0 h_Term_nothing hr (Nat.le_trans (by decide : 3 ≤ 5) (Nat.le_add_right 5 _)) tk)))) psm_nil)
      (psm_cons (psm_if (ptm_cmp (om_eq (hu64 hr)) (pm_ix (pm_var 0) pm_int) pm_str) (psm_one (psm_ret (pm_stat h_Term_of hr (Nat.le_trans (by decide : 3 ≤ 5) (Nat.le_add_right 5 _)) tk (pam_cons (pm_ix (pm_var 0) pm_int) pam_nil)))) psm_nil)
      (psm_cons (psm_set 1 (pm_callE h__law_term hr (Nat.le_refl _) tk (pam_cons (pm_ix (pm_var 0) pm_int) pam_nil)) sc__law_term.nd)
      (psm_cons (psm_if (ptm_cmp (om_in (hu65 hr)) (pm_ix (pm_var 0) pm_int) (pm_tup (pam_cons pm_str (pam_cons pm_str pam_nil)))) (psm_one (psm_ret (pm_ifExp (ptm_cmp (om_eq (hu64 hr)) (pm_ix (pm_var 0) pm_int) pm_str) (pm_meth0 h_Term_closed hr (Nat.le_trans (by decide : 5 ≤ 5) (Nat.le_add_right 5 _)) tk (pm_var 1)) (pm_meth0 h_Term_opened hr (Nat.le_trans (by decide : 5 ≤ 5) (Nat.le_add_right 5 _)) tk (pm_var 1))))) psm_nil)
      (psm_cons (psm_if (ptm_cmp (om_in (hu65 hr)) (pm_ix (pm_var 0) pm_int) (pm_tup (pam_cons pm_str (pam_cons pm_str pam_nil)))) (psm_one (psm_ret (pm_ifExp (ptm_cmp (om_eq (hu64 hr)) (pm_ix (pm_var 0) pm_int) pm_str) (pm_un (um_inv h_Term___invert__ hr (Nat.le_trans (by decide : 5 ≤ 5) (Nat.le_add_right 5 _)) tk rfl) (pm_var 1)) (pm_meth0 h_Term_rim hr (Nat.le_trans (by decide : 5 ≤ 5) (Nat.le_add_right 5 _)) tk (pm_var 1))))) psm_nil)
      (psm_cons (psm_set 2 (pm_callE h__law_term hr (Nat.le_refl _) tk (pam_cons (pm_ix (pm_var 0) pm_int) pam_nil)) sc__law_term.nd)
      (psm_one (psm_ret (pm_ifExp (ptm_cmp (om_eq (hu64 hr)) (pm_ix (pm_var 0) pm_int) pm_str) (pm_bin (om_ownA T.op_or dec_or h_Term___or__ h_Term___ror__ hr (Nat.le_trans (by decide : 5 ≤ 5) (Nat.le_add_right 5 _)) tk rfl rfl om_no) (pm_var 1) (pm_var 2)) (pm_ifExp (ptm_cmp (om_eq (hu64 hr)) (pm_ix (pm_var 0) pm_int) pm_str) (pm_bin (om_ownA T.op_and dec_and h_Term___and__ h_Term___rand__ hr (Nat.le_trans (by decide : 5 ≤ 5) (Nat.le_add_right 5 _)) tk rfl rfl om_no) (pm_var 1) (pm_var 2)) (pm_bin (om_ownA T.op_sub dec_sub h_Term___sub__ h_Term___rsub__ hr (Nat.le_trans (by decide : 5 ≤ 5) (Nat.le_add_right 5 _)) tk rfl rfl om_sub) (pm_var 1) (pm_var 2))))))))))))
theorem sc__law_saying_text : FnScope ["_law_saying", "_law_word", "_law_one_here", "_law_other"] ["_law_saying"] (defScope s__law_saying_text) := ⟨rfl, rfl, rfl, by decide +kernel, rfl, by decide +kernel, by decide +kernel⟩
theorem ok__law_saying_text (T : Txt w K mg) (hP : REX.PrgOk P "/claim/cut.py") (h__law_text : FnE P w K mg base 24 "_law_text" s__law_text ["_law_form_here"] (G__law_text 24)) : FnE P w K mg base 25 "_law_saying_text" s__law_saying_text ["_law_saying"] G__law_saying_text := fn_e T.f__law_saying_text sc__law_saying_text fun f cdv A outer s H E hr tk => by
    exact (psm_cons (psm_asg (vs := [1, 2, 3]) (pm_var 0) (pgm_tup (n := 3) rfl (pgm_cons (pgm_name 1 sc__law_saying_text.nd) (pgm_cons (pgm_name 2 sc__law_saying_text.nd) (pgm_cons (pgm_name 3 sc__law_saying_text.nd) pgm_nil)))))
      (psm_cons (psm_if (ptm_cmp (om_eq (hu64 hr)) (pm_var 1) pm_str) (psm_one (psm_ret (pm_bin om_add (pm_callE h__law_text hr (by decide) tk (pam_cons (pm_var 2) pam_nil)) pm_str))) psm_nil)
      (psm_one (psm_ret (pm_bin om_add (pm_bin om_add (pm_callE h__law_text hr (by decide) tk (pam_cons (pm_var 2) pam_nil)) (pm_ifExp (ptm_cmp (om_eq (hu64 hr)) (pm_var 1) pm_str) pm_str pm_str)) (pm_callE h__law_text hr (by decide) tk (pam_cons (pm_var 3) pam_nil)))))))
theorem sc_Statement_empty : FnScope ["term"] ["term"] (defScope s_Statement_empty) := ⟨rfl, rfl, rfl, by decide +kernel, rfl, by decide +kernel, by decide +kernel⟩
theorem ok_Statement_empty (T : Txt w K mg) (hP : REX.PrgOk P "/claim/cut.py") (h_Term_of : StE P w K mg base 3 "Term" "of" "Term.of" s_Term_of ["value"] G_Term_of) (h_Statement___init__ : MkE P w K mg base 1 "Statement" ["own_relation", "own_one", "own_other"]) : StE P w K mg base 4 "Statement" "empty" "Statement.empty" s_Statement_empty ["term"] G_Statement_empty := st_e T.f_Statement_empty sc_Statement_empty fun f cdv A outer s H E hr tk => by
    exact (psm_one (psm_ret (pm_make h_Statement___init__ hr (by decide) tk (pam_cons pm_str (pam_cons (pm_stat h_Term_of hr (by decide) tk (pam_cons (pm_var 0) pam_nil)) (pam_cons pm_non pam_nil))))))
theorem sc_Statement_within : FnScope ["one", "other"] ["one", "other"] (defScope s_Statement_within) := ⟨rfl, rfl, rfl, by decide +kernel, rfl, by decide +kernel, by decide +kernel⟩
theorem ok_Statement_within (T : Txt w K mg) (hP : REX.PrgOk P "/claim/cut.py") (h_Term_of : StE P w K mg base 3 "Term" "of" "Term.of" s_Term_of ["value"] G_Term_of) (h_Statement___init__ : MkE P w K mg base 1 "Statement" ["own_relation", "own_one", "own_other"]) : StE P w K mg base 4 "Statement" "within" "Statement.within" s_Statement_within ["one", "other"] G_Statement_within := st_e T.f_Statement_within sc_Statement_within fun f cdv A outer s H E hr tk => by
    exact (psm_one (psm_ret (pm_make h_Statement___init__ hr (by decide) tk (pam_cons pm_str (pam_cons (pm_stat h_Term_of hr (by decide) tk (pam_cons (pm_var 0) pam_nil)) (pam_cons (pm_stat h_Term_of hr (by decide) tk (pam_cons (pm_var 1) pam_nil)) pam_nil))))))
theorem sc_Statement_equal : FnScope ["one", "other"] ["one", "other"] (defScope s_Statement_equal) := ⟨rfl, rfl, rfl, by decide +kernel, rfl, by decide +kernel, by decide +kernel⟩
theorem ok_Statement_equal (T : Txt w K mg) (hP : REX.PrgOk P "/claim/cut.py") (h_Term_of : StE P w K mg base 3 "Term" "of" "Term.of" s_Term_of ["value"] G_Term_of) (h_Statement___init__ : MkE P w K mg base 1 "Statement" ["own_relation", "own_one", "own_other"]) : StE P w K mg base 4 "Statement" "equal" "Statement.equal" s_Statement_equal ["one", "other"] G_Statement_equal := st_e T.f_Statement_equal sc_Statement_equal fun f cdv A outer s H E hr tk => by
    exact (psm_one (psm_ret (pm_make h_Statement___init__ hr (by decide) tk (pam_cons pm_str (pam_cons (pm_stat h_Term_of hr (by decide) tk (pam_cons (pm_var 0) pam_nil)) (pam_cons (pm_stat h_Term_of hr (by decide) tk (pam_cons (pm_var 1) pam_nil)) pam_nil))))))
theorem sc__law_statement : FnScope ["_law_saying", "_law_word", "_law_one_here", "_law_other"] ["_law_saying"] (defScope s__law_statement) := ⟨rfl, rfl, rfl, by decide +kernel, rfl, by decide +kernel, by decide +kernel⟩
theorem ok__law_statement (T : Txt w K mg) (hP : REX.PrgOk P "/claim/cut.py") (h__law_term : FnE P w K mg base 15 "_law_term" s__law_term ["_law_form_here"] (G__law_term 10)) (h_Statement_empty : StE P w K mg base 4 "Statement" "empty" "Statement.empty" s_Statement_empty ["term"] G_Statement_empty) (h_Statement_within : StE P w K mg base 4 "Statement" "within" "Statement.within" s_Statement_within ["one", "other"] G_Statement_within) (h_Statement_equal : StE P w K mg base 4 "Statement" "equal" "Statement.equal" s_Statement_equal ["one", "other"] G_Statement_equal) : FnE P w K mg base 16 "_law_statement" s__law_statement ["_law_saying"] G__law_statement := fn_e T.f__law_statement sc__law_statement fun f cdv A outer s H E hr tk => by
    exact (psm_cons (psm_asg (vs := [1, 2, 3]) (pm_var 0) (pgm_tup (n := 3) rfl (pgm_cons (pgm_name 1 sc__law_statement.nd) (pgm_cons (pgm_name 2 sc__law_statement.nd) (pgm_cons (pgm_name 3 sc__law_statement.nd) pgm_nil)))))
      (psm_cons (psm_if (ptm_cmp (om_eq (hu64 hr)) (pm_var 1) pm_str) (psm_one (psm_ret (pm_stat h_Statement_empty hr (by decide) tk (pam_cons (pm_callE h__law_term hr (by decide) tk (pam_cons (pm_var 2) pam_nil)) pam_nil)))) psm_nil)
      (psm_one (psm_ret (pm_ifExp (ptm_cmp (om_eq (hu64 hr)) (pm_var 1) pm_str) (pm_stat h_Statement_within hr (by decide) tk (pam_cons (pm_callE h__law_term hr (by decide) tk (pam_cons (pm_var 2) pam_nil)) (pam_cons (pm_callE h__law_term hr (by decide) tk (pam_cons (pm_var 3) pam_nil)) pam_nil))) (pm_stat h_Statement_equal hr (by decide) tk (pam_cons (pm_callE h__law_term hr (by decide) tk (pam_cons (pm_var 2) pam_nil)) (pam_cons (pm_callE h__law_term hr (by decide) tk (pam_cons (pm_var 3) pam_nil)) pam_nil))))))))
theorem sc__law_filled : FnScope ["_law_form_here", "_law_known", "_law_one_here"] ["_law_form_here", "_law_known"] (defScope s__law_filled) := ⟨rfl, rfl, rfl, by decide +kernel, rfl, by decide +kernel, by decide +kernel⟩
theorem ok__law_filled (T : Txt w K mg) (hP : REX.PrgOk P "/claim/cut.py") : ∀ n : Nat, FnE P w K mg base (0 + n) "_law_filled" s__law_filled ["_law_form_here", "_law_known"] (G__law_filled n)
  | 0 => fnE_bad T.f__law_filled
  | n + 1 => fn_e T.f__law_filled sc__law_filled fun f cdv A outer s H E hr tk => by
    have h__law_filled := ok__law_filled T hP n
    exact (psm_cons (psm_if (ptm_cmp (om_eq (hu64 hr)) (pm_ix (pm_var 0) pm_int) pm_str) (psm_one (psm_ret (pm_dget2 (hu_of hr) (pm_var 1) (pm_ix (pm_var 0) pm_int) (pm_var 0)))) psm_nil)
      (psm_one (psm_ret (pm_bin om_add (pm_tup (pam_cons (pm_ix (pm_var 0) pm_int) pam_nil)) (pm_callTy cm_tuple T.z_tuple (pam_cons (pm_lc (own := [("_law_one_here", 2)]) rfl sc__law_filled.nd (pim_any (pm_slice (pm_var 0) (pom_some pm_int) pom_none)) (show blkC ["_law_form_here", "_law_known", "_law_one_here"] (defScope s__law_filled) _ [("_law_one_here", 2)] = true by decide +kernel) ⟨fun _ _ _ _ _ => (pgm_name 2 sc__law_filled.nd), fun _ _ _ _ _ => ptsm_nil, fun _ _ _ _ _ => (pm_callE h__law_filled hr (Nat.le_refl _) takesE0 (pam_cons (pm_var 2) (pam_cons (pm_var 1) pam_nil)))⟩) pam_nil))))))
theorem sc__law_size : FnScope ["_law_form_here", "_law_inner", "_law_one_here", "_law_deep", "_law_many"] ["_law_form_here"] (defScope s__law_size) := ⟨rfl, rfl, rfl, by decide +kernel, rfl, by decide +kernel, by decide +kernel⟩
theorem ok__law_size (T : Txt w K mg) (hP : REX.PrgOk P "/claim/cut.py") : ∀ n : Nat, FnE P w K mg base (0 + n) "_law_size" s__law_size ["_law_form_here"] (G__law_size n)
  | 0 => fnE_bad T.f__law_size
  | n + 1 => fn_e T.f__law_size sc__law_size fun f cdv A outer s H E hr tk => by
    have h__law_size := ok__law_size T hP n
    exact (psm_cons (psm_if (ptm_cmp (om_in (hu65 hr)) (pm_ix (pm_var 0) pm_int) (pm_tup (pam_cons pm_str (pam_cons pm_str (pam_cons pm_str pam_nil))))) (psm_one (psm_ret (pm_tup (pam_cons pm_int (pam_cons pm_int pam_nil))))) psm_nil)
      (psm_cons (psm_setLc (own := [("_law_one_here", 2)]) 1 rfl sc__law_size.nd (pim_any (pm_slice (pm_var 0) (pom_some pm_int) pom_none)) (show blkC ["_law_form_here", "_law_inner", "_law_one_here", "_law_deep", "_law_many"] (defScope s__law_size) _ [("_law_one_here", 2)] = true by decide +kernel) ⟨fun _ _ _ _ _ => (pgm_name 2 sc__law_size.nd), fun _ _ _ _ _ => ptsm_nil, fun _ _ _ _ _ => (pm_callE h__law_size hr (Nat.le_refl _) takesE0 (pam_cons (pm_var 2) pam_nil))⟩)
      (psm_one (psm_ret (pm_tup (pam_cons (pm_bin om_add pm_int (pm_callB (cm_max rfl) T.z_max (pam_cons (pm_lc (own := [("_law_deep", 3), ("_law_many", 4)]) rfl sc__law_size.nd (pim_any (pm_var 1)) (show blkC ["_law_form_here", "_law_inner", "_law_one_here", "_law_deep", "_law_many"] (defScope s__law_size) _ [("_law_deep", 3), ("_law_many", 4)] = true by decide +kernel) ⟨fun _ _ _ _ _ => (pgm_tup (n := 2) rfl (pgm_cons (pgm_name 3 sc__law_size.nd) (pgm_cons (pgm_name 4 sc__law_size.nd) pgm_nil))), fun _ _ _ _ _ => ptsm_nil, fun _ _ _ _ _ => (pm_var 3)⟩) pam_nil))) (pam_cons (pm_bin om_add pm_int (pm_callB (cm_sum rfl) T.z_sum (pam_cons (pm_lc (own := [("_law_deep", 3), ("_law_many", 4)]) rfl sc__law_size.nd (pim_any (pm_var 1)) (show blkC ["_law_form_here", "_law_inner", "_law_one_here", "_law_deep", "_law_many"] (defScope s__law_size) _ [("_law_deep", 3), ("_law_many", 4)] = true by decide +kernel) ⟨fun _ _ _ _ _ => (pgm_tup (n := 2) rfl (pgm_cons (pgm_name 3 sc__law_size.nd) (pgm_cons (pgm_name 4 sc__law_size.nd) pgm_nil))), fun _ _ _ _ _ => ptsm_nil, fun _ _ _ _ _ => (pm_var 4)⟩) pam_nil))) pam_nil)))))))
theorem sc__law_extra : FnScope ["_law_e"] ["_law_e"] (defScope s__law_extra) := ⟨rfl, rfl, rfl, by decide +kernel, rfl, by decide +kernel, by decide +kernel⟩
theorem ok__law_extra (T : Txt w K mg) (hP : REX.PrgOk P "/claim/cut.py") : FnCE P w K mg base 1 "_law_extra" s__law_extra ["_law_e"] G__law_extra := fn_cE T.f__law_extra sc__law_extra fun f cdv A outer s H p hr => by
    exact (psm_cons (psm_if (ptm_cmp (om_eq (hu64H hr)) (pm_xfld T.xf_code (pm_var 0)) pm_str) (psm_one (psm_ret (pm_xfld T.xf_path (pm_var 0)))) psm_nil)
      (psm_cons (psm_if (ptm_cmp (om_in (hu65H hr)) (pm_xfld T.xf_code (pm_var 0)) (pm_tup (pam_cons pm_str (pam_cons pm_str pam_nil)))) (psm_one (psm_ret (pm_xfld T.xf_line (pm_var 0)))) psm_nil)
      (psm_cons (psm_if (ptm_cmp (om_eq (hu64H hr)) (pm_xfld T.xf_code (pm_var 0)) pm_str) (psm_one (psm_ret (pm_xfld T.xf_word (pm_var 0)))) psm_nil)
      (psm_cons (psm_if (ptm_cmp (om_in (hu65H hr)) (pm_xfld T.xf_code (pm_var 0)) (pm_tup (pam_cons pm_str (pam_cons pm_str pam_nil)))) (psm_one (psm_ret (pm_xfld T.xf_limit (pm_var 0)))) psm_nil)
      (psm_cons (psm_if (ptm_cmp (om_eq (hu64H hr)) (pm_xfld T.xf_code (pm_var 0)) pm_str) (psm_one (psm_ret (pm_xfld T.xf_user (pm_var 0)))) psm_nil)
      (psm_cons (psm_if (ptm_cmp (om_eq (hu64H hr)) (pm_xfld T.xf_code (pm_var 0)) pm_str) (psm_one (psm_ret (pm_tup (pam_cons (pm_xfld T.xf_fact_name (pm_var 0)) (pam_cons (pm_xfld T.xf_sheet_name (pm_var 0)) pam_nil))))) psm_nil)
      (psm_one (psm_ret (pm_ifExp (ptm_cmp (om_in (hu65H hr)) (pm_xfld T.xf_code (pm_var 0)) (pm_tup (pam_cons pm_str (pam_cons pm_str (pam_cons pm_str pam_nil))))) pm_non (pm_xfld T.xf_value (pm_var 0)))))))))))
theorem ok_lam0 (T : Txt w K mg) (hP : REX.PrgOk P "/claim/cut.py") (h_Statement_filled : KwE P w K mg base 21 "Statement" "filled" "Statement.filled" s_Statement_filled ["self"] "terms" G_Statement_filled) (h_Statement_within : StE P w K mg base 4 "Statement" "within" "Statement.within" s_Statement_within ["one", "other"] G_Statement_within) : CloOk P w K mg base 22 L_0 G_lam0 := clo_okN (pn := []) (N := ["_law_a", "_law_deep"]) (by rfl) (by decide +kernel) (lamB0 rfl fun _ _ _ _ _ => rfl) fun A outer s H E f c' clo hr tk => by
    exact (pm_methKw ["ax", "bx"] h_Statement_filled hr (by decide) tk (pm_stat h_Statement_within hr (by decide) tk (pam_cons (pm_var 0) (pam_cons pm_str pam_nil))) (pkm_cons (pm_var 1) (pkm_cons pm_non pkm_nil)) (fun _ _ _ _ _ _ us ys hu hy => match us, ys, hu, hy with | [_], [_, _], _, _ => rfl))
theorem ok_lam1 (T : Txt w K mg) (hP : REX.PrgOk P "/claim/cut.py") (h_Statement_filled : KwE P w K mg base 21 "Statement" "filled" "Statement.filled" s_Statement_filled ["self"] "terms" G_Statement_filled) (h_Term___or__ : MeE P w K mg base 5 "Term" "__or__" "Term.__or__" s_Term___or__ ["self", "other"] G_Term___or__) (h_Term___ror__ : MeE P w K mg base 5 "Term" "__ror__" "Term.__ror__" s_Term___ror__ ["self", "other"] G_Term___ror__) (h_Statement_equal : StE P w K mg base 4 "Statement" "equal" "Statement.equal" s_Statement_equal ["one", "other"] G_Statement_equal) : CloOk P w K mg base 22 L_1 G_lam1 := clo_okN (pn := ["_law_b"]) (N := ["_law_a", "_law_wide", "_law_b"]) (by rfl) (by decide +kernel) (lamB1 rfl fun _ _ _ _ _ _ => ⟨_, rfl, fun _ => rfl⟩) fun A outer s H E f c' clo hr tk => by
    exact (pm_methKw ["ax"] h_Statement_filled hr (by decide) tk (pm_stat h_Statement_equal hr (by decide) tk (pam_cons pm_str (pam_cons (pm_bin (om_ownA T.op_or dec_or h_Term___or__ h_Term___ror__ hr (by decide) tk rfl rfl om_no) (pm_var 0) (pm_var 0)) pam_nil))) (pkm_cons (pm_var 1) pkm_nil) (fun _ _ _ _ _ _ us ys hu hy => match us, ys, hu, hy with | [_], [_], _, _ => rfl))
theorem ok_lam2 (T : Txt w K mg) (hP : REX.PrgOk P "/claim/cut.py") (h_Statement_filled : KwE P w K mg base 21 "Statement" "filled" "Statement.filled" s_Statement_filled ["self"] "terms" G_Statement_filled) (h_Statement_within : StE P w K mg base 4 "Statement" "within" "Statement.within" s_Statement_within ["one", "other"] G_Statement_within) : CloOk P w K mg base 22 L_2 G_lam2 := clo_okN (pn := ["_law_c"]) (N := ["_law_bad", "_law_c"]) (by rfl) (by decide +kernel) (lamB1 rfl fun _ _ _ _ _ _ => ⟨_, rfl, fun _ => rfl⟩) fun A outer s H E f c' clo hr tk => by
    exact (pm_methKw ["bx", "ax"] h_Statement_filled hr (by decide) tk (pm_stat h_Statement_within hr (by decide) tk (pam_cons pm_str (pam_cons pm_str pam_nil))) (pkm_cons pm_non (pkm_cons (pm_var 0) pkm_nil)) (fun _ _ _ _ _ _ us ys hu hy => match us, ys, hu, hy with | [_], [_, _], _, _ => rfl))
theorem ok_lam3 (T : Txt w K mg) (hP : REX.PrgOk P "/claim/cut.py") (h_Statement_filled : KwE P w K mg base 21 "Statement" "filled" "Statement.filled" s_Statement_filled ["self"] "terms" G_Statement_filled) (h_Statement_within : StE P w K mg base 4 "Statement" "within" "Statement.within" s_Statement_within ["one", "other"] G_Statement_within) : CloOk P w K mg base 22 L_3 G_lam3 := clo_okN (pn := ["_law_d"]) (N := ["_law_bad", "_law_d"]) (by rfl) (by decide +kernel) (lamB1 rfl fun _ _ _ _ _ _ => ⟨_, rfl, fun _ => rfl⟩) fun A outer s H E f c' clo hr tk => by
    exact (pm_methKw ["bx", "ax"] h_Statement_filled hr (by decide) tk (pm_stat h_Statement_within hr (by decide) tk (pam_cons pm_str (pam_cons pm_str pam_nil))) (pkm_cons (pm_var 0) (pkm_cons pm_non pkm_nil)) (fun _ _ _ _ _ _ us ys hu hy => match us, ys, hu, hy with | [_], [_, _], _, _ => rfl))
theorem ok_lam4 (T : Txt w K mg) (hP : REX.PrgOk P "/claim/cut.py") (h_Statement_filled : KwE P w K mg base 21 "Statement" "filled" "Statement.filled" s_Statement_filled ["self"] "terms" G_Statement_filled) (h_Statement_text : MeE P w K mg base 29 "Statement" "text" "Statement.text" s_Statement_text ["self"] G_Statement_text) (h_Statement_empty : StE P w K mg base 4 "Statement" "empty" "Statement.empty" s_Statement_empty ["term"] G_Statement_empty) : CloOk P w K mg base 30 L_4 G_lam4 := clo_okN (pn := ["_law_f"]) (N := ["_law_bad", "_law_f"]) (by rfl) (by decide +kernel) (lamB1 rfl fun _ _ _ _ _ _ => ⟨_, rfl, fun _ => rfl⟩) fun A outer s H E f c' clo hr tk => by
    exact (pm_meth0 h_Statement_text hr (by decide) tk (pm_methKw ["ax"] h_Statement_filled hr (by decide) tk (pm_stat h_Statement_empty hr (by decide) tk (pam_cons pm_str pam_nil)) (pkm_cons (pm_var 0) pkm_nil) (fun _ _ _ _ _ _ us ys hu hy => match us, ys, hu, hy with | [_], [_], _, _ => rfl)))
theorem ok_lam5 (T : Txt w K mg) (hP : REX.PrgOk P "/claim/cut.py") (h_Statement_filled : KwE P w K mg base 21 "Statement" "filled" "Statement.filled" s_Statement_filled ["self"] "terms" G_Statement_filled) (h_Statement_empty : StE P w K mg base 4 "Statement" "empty" "Statement.empty" s_Statement_empty ["term"] G_Statement_empty) : CloOk P w K mg base 22 L_5 G_lam5 := clo_okN (pn := ["_law_g"]) (N := ["_law_a", "_law_deep", "_law_g"]) (by rfl) (by decide +kernel) (lamB1 rfl fun _ _ _ _ _ _ => ⟨_, rfl, fun _ => rfl⟩) fun A outer s H E f c' clo hr tk => by
    exact (pm_methKw ["ax"] h_Statement_filled hr (by decide) tk (pm_stat h_Statement_empty hr (by decide) tk (pam_cons (pm_var 0) pam_nil)) (pkm_cons (pm_var 1) pkm_nil) (fun _ _ _ _ _ _ us ys hu hy => match us, ys, hu, hy with | [_], [_], _, _ => rfl))
theorem ok_clos (h_lam0 : CloOk P w K mg base 22 L_0 G_lam0) (h_lam1 : CloOk P w K mg base 22 L_1 G_lam1) (h_lam2 : CloOk P w K mg base 22 L_2 G_lam2) (h_lam3 : CloOk P w K mg base 22 L_3 G_lam3) (h_lam4 : CloOk P w K mg base 30 L_4 G_lam4) (h_lam5 : CloOk P w K mg base 22 L_5 G_lam5) : Clos P w K mg base 30 F_clo := fun j => match j with
  | 0 => h_lam0.mono (by decide)
  | 1 => h_lam1.mono (by decide)
  | 2 => h_lam2.mono (by decide)
  | 3 => h_lam3.mono (by decide)
  | 4 => h_lam4.mono (by decide)
  | 5 => h_lam5.mono (by decide)
  | _ + 6 => clo_bad
theorem sc__law_why : FnScope ["_law_ask", "_law_e"] ["_law_ask"] (defScope s__law_why) := ⟨rfl, rfl, rfl, by decide +kernel, rfl, by decide +kernel, by decide +kernel⟩
theorem ok__law_why (T : Txt w K mg) (hP : REX.PrgOk P "/claim/cut.py") (h__law_extra : FnCE P w K mg base 1 "_law_extra" s__law_extra ["_law_e"] G__law_extra) (h_clos : Clos P w K mg base 30 F_clo) : FnE P w K mg base 31 "_law_why" s__law_why ["_law_ask"] G__law_why := fn_e T.f__law_why sc__law_why fun f cdv A outer s H E hr tk => by
    exact (psm_one (by obtain ⟨C1, C2, C3, m1, m2, m3, hkx⟩ := T.kx; exact psm_tryT 1 rfl rfl rfl sc__law_why.nd tk m1 m2 m3 hkx (fun E' pn xe hce tk => (psm_one (psm_ret (pm_tup (pam_cons pm_str (pam_cons (pm_actE h_clos hr (by decide) tk (pm_var 0)) pam_nil)))))) (fun a pn => (psm_one (psm_ret (pm_tup (pam_cons (pm_xfld T.xf_code (pm_var 1)) (pam_cons (pm_callX h__law_extra (room_suite hr a pn) (by decide) (pam_cons (pm_var 1) pam_nil)) pam_nil))))))))
theorem sc__law_whys : FnScope ["_law_asks", "_law_ask"] ["_law_asks"] (defScope s__law_whys) := ⟨rfl, rfl, rfl, by decide +kernel, rfl, by decide +kernel, by decide +kernel⟩
theorem ok__law_whys (T : Txt w K mg) (hP : REX.PrgOk P "/claim/cut.py") (h__law_why : FnE P w K mg base 31 "_law_why" s__law_why ["_law_ask"] G__law_why) : FnE P w K mg base 32 "_law_whys" s__law_whys ["_law_asks"] G__law_whys := fn_e T.f__law_whys sc__law_whys fun f cdv A outer s H E hr tk => by
    exact (psm_one (psm_ret (pm_lc (own := [("_law_ask", 1)]) rfl sc__law_whys.nd (pim_any (pm_var 0)) (show blkC ["_law_asks", "_law_ask"] (defScope s__law_whys) _ [("_law_ask", 1)] = true by decide +kernel) ⟨fun _ _ _ _ _ => (pgm_name 1 sc__law_whys.nd), fun _ _ _ _ _ => ptsm_nil, fun _ _ _ _ _ => (pm_callE h__law_why hr (by decide) takesE0 (pam_cons (pm_var 1) pam_nil))⟩)))
theorem sc__law_statements_filled_so : FnScope ["_law_bag", "_law_k", "_law_bad", "_law_asks", "_law_due", "_law_deep", "_law_wide", "_law_a"] ["_law_bag"] (defScope s__law_statements_filled_so) := ⟨rfl, rfl, rfl, by decide +kernel, rfl, by decide +kernel, by decide +kernel⟩
theorem ok__law_statements_filled_so (T : Txt w K mg) (hP : REX.PrgOk P "/claim/cut.py") (h_Term_of : StE P w K mg base 3 "Term" "of" "Term.of" s_Term_of ["value"] G_Term_of) (h__law_one : FnE P w K mg base 2 "_law_one" s__law_one ["_law_bag", "_law_things"] G__law_one) (h__law_same : FnE P w K mg base 10 "_law_same" s__law_same ["_law_found", "_law_due"] (G__law_same 10)) (h_Term___and__ : MeE P w K mg base 5 "Term" "__and__" "Term.__and__" s_Term___and__ ["self", "other"] G_Term___and__) (h_Term___rand__ : MeE P w K mg base 5 "Term" "__rand__" "Term.__rand__" s_Term___rand__ ["self", "other"] G_Term___rand__) (h_Term_closed : MeE P w K mg base 5 "Term" "closed" "Term.closed" s_Term_closed ["self"] G_Term_closed) (h__law_whys : FnE P w K mg base 32 "_law_whys" s__law_whys ["_law_asks"] G__law_whys) (TK : TabK base K mg "_law_statements_filled_so") : FnE P w K mg base 33 "_law_statements_filled_so" s__law_statements_filled_so ["_law_bag"] G__law_statements_filled_so := fn_mkE T.f__law_statements_filled_so sc__law_statements_filled_so TK fun f cdv A outer s H E hr tk hM hE => by
    exact (psm_cons (psm_asg (vs := [5, 6, 7]) (pm_tup (pam_cons (pm_stat h_Term_of hr (by decide) tk (pam_cons pm_str pam_nil)) (pam_cons (pm_stat h_Term_of hr (by decide) tk (pam_cons pm_str pam_nil)) (pam_cons (pm_meth0 h_Term_closed hr (by decide) tk (pm_stat h_Term_of hr (by decide) tk (pam_cons pm_str pam_nil))) pam_nil)))) (pgm_tup (n := 3) rfl (pgm_cons (pgm_name 5 sc__law_statements_filled_so.nd) (pgm_cons (pgm_name 6 sc__law_statements_filled_so.nd) (pgm_cons (pgm_name 7 sc__law_statements_filled_so.nd) pgm_nil)))))
      (psm_cons (psm_for (vs := [1]) (passes_of rfl) rfl (pim_range1 T.z_range (pam_cons pm_int pam_nil)) (pgm_name 1 sc__law_statements_filled_so.nd) (psm_one (psm_set 5 (pm_meth0 h_Term_closed hr (by decide) tk (pm_var 5)) sc__law_statements_filled_so.nd)))
      (psm_cons (psm_for (vs := [1]) (passes_of rfl) rfl (pim_range1 T.z_range (pam_cons pm_int pam_nil)) (pgm_name 1 sc__law_statements_filled_so.nd) (psm_one (psm_set 6 (pm_bin (om_ownA T.op_and dec_and h_Term___and__ h_Term___rand__ hr (by decide) tk rfl rfl om_no) (pm_var 6) (pm_var 6)) sc__law_statements_filled_so.nd)))
      (psm_cons (psm_set 2 (pm_callE h__law_one hr (by decide) tk (pam_cons (pm_var 0) (pam_cons (pm_lst (pam_cons pm_non (pam_cons pm_int (pam_cons pm_str (pam_cons pm_bl (pam_cons pm_str (pam_cons (pm_tup (pam_cons pm_str pam_nil)) pam_nil))))))) pam_nil))) sc__law_statements_filled_so.nd)
      (psm_cons (psm_set 3 (pm_lst (pam_cons (pm_lam0B hM hE 0 0 (show frB (defScope s__law_statements_filled_so) L_0.sc = true by decide +kernel)) (pam_cons (pm_lam1B hM hE 0 1 (show frB (defScope s__law_statements_filled_so) L_1.sc = true by decide +kernel)) (pam_cons (pm_lam1B hM hE 0 2 (show frB (defScope s__law_statements_filled_so) L_2.sc = true by decide +kernel)) (pam_cons (pm_lam1B hM hE 0 3 (show frB (defScope s__law_statements_filled_so) L_3.sc = true by decide +kernel)) (pam_cons (pm_lam1B hM hE 0 4 (show frB (defScope s__law_statements_filled_so) L_4.sc = true by decide +kernel)) (pam_cons (pm_lam1B hM hE 0 5 (show frB (defScope s__law_statements_filled_so) L_5.sc = true by decide +kernel)) pam_nil))))))) sc__law_statements_filled_so.nd)
      (psm_cons (psm_set 4 (pm_lst (pam_cons (pm_tup (pam_cons pm_str (pam_cons pm_int pam_nil))) (pam_cons (pm_tup (pam_cons pm_str (pam_cons pm_int pam_nil))) (pam_cons (pm_tup (pam_cons pm_str (pam_cons (pm_var 2) pam_nil))) (pam_cons (pm_tup (pam_cons pm_str (pam_cons (pm_var 2) pam_nil))) (pam_cons (pm_tup (pam_cons pm_str (pam_cons pm_str pam_nil))) (pam_cons (pm_tup (pam_cons pm_str (pam_cons pm_int pam_nil))) pam_nil))))))) sc__law_statements_filled_so.nd)
      (psm_one (psm_ret (pm_callE h__law_same hr (by decide) tk (pam_cons (pm_callC [(0, [7, 5]), (1, [7, 6]), (2, [2]), (3, [2]), (4, [2]), (5, [7, 5])] h__law_whys hr (by decide) tk (fun _ => rfl) hE (show ixB ["_law_bag", "_law_k", "_law_bad", "_law_asks", "_law_due", "_law_deep", "_law_wide", "_law_a"] (defScope s__law_statements_filled_so) [(0, [7, 5]), (1, [7, 6]), (2, [2]), (3, [2]), (4, [2]), (5, [7, 5])] = true by decide +kernel) (pam_cons (pm_var 3) pam_nil)) (pam_cons (pm_var 4) pam_nil)))))))))))
theorem sc_law : FnScope ["_law_script", "_law_bag", "_law_turn", "_law_form_here", "_law_swap", "_law_due", "_law_found", "_law_sizes", "_law_saying", "_law_late", "_law_known", "_law_first", "_law_second", "_law_term_here", "_law_one_here", "_law_two"] ["_law_script"] (defScope s_law) := ⟨rfl, rfl, rfl, by decide +kernel, rfl, by decide +kernel, by decide +kernel⟩
theorem ok_law (T : Txt w K mg) (hP : REX.PrgOk P "/claim/cut.py") (h_Term_depth : MeE P w K mg base 1 "Term" "depth" "Term.depth" s_Term_depth ["self"] G_Term_depth) (h_Term_parts : MeE P w K mg base 1 "Term" "parts" "Term.parts" s_Term_parts ["self"] G_Term_parts) (h_Term_filled : KwE P w K mg base 19 "Term" "filled" "Term.filled" s_Term_filled ["self"] "terms" G_Term_filled) (h_Term_text : MeE P w K mg base 25 "Term" "text" "Term.text" s_Term_text ["self"] G_Term_text) (h_Statement_filled : KwE P w K mg base 21 "Statement" "filled" "Statement.filled" s_Statement_filled ["self"] "terms" G_Statement_filled) (h_Statement_text : MeE P w K mg base 29 "Statement" "text" "Statement.text" s_Statement_text ["self"] G_Statement_text) (h__law_cells : FnE P w K mg base 1 "_law_cells" s__law_cells ["_law_script"] G__law_cells) (h__law_one : FnE P w K mg base 2 "_law_one" s__law_one ["_law_bag", "_law_things"] G__law_one) (h__law_same : FnE P w K mg base 10 "_law_same" s__law_same ["_law_found", "_law_due"] (G__law_same 10)) (h__law_form : FnE P w K mg base 13 "_law_form" s__law_form ["_law_bag", "_law_names", "_law_deep"] (G__law_form 10)) (h__law_text : FnE P w K mg base 24 "_law_text" s__law_text ["_law_form_here"] (G__law_text 24)) (h__law_term : FnE P w K mg base 15 "_law_term" s__law_term ["_law_form_here"] (G__law_term 10)) (h__law_saying_text : FnE P w K mg base 25 "_law_saying_text" s__law_saying_text ["_law_saying"] G__law_saying_text) (h__law_statement : FnE P w K mg base 16 "_law_statement" s__law_statement ["_law_saying"] G__law_statement) (h__law_filled : FnE P w K mg base 10 "_law_filled" s__law_filled ["_law_form_here", "_law_known"] (G__law_filled 10)) (h__law_size : FnE P w K mg base 10 "_law_size" s__law_size ["_law_form_here"] (G__law_size 10)) (h__law_statements_filled_so : FnE P w K mg base 33 "_law_statements_filled_so" s__law_statements_filled_so ["_law_bag"] G__law_statements_filled_so) : FnE P w K mg base 34 "law" s_law ["_law_script"] G_law := fn_e T.f_law sc_law fun f cdv A outer s H E hr tk => by
    exact (psm_cons (psm_set 1 (pm_callE h__law_cells hr (by decide) tk (pam_cons (pm_var 0) pam_nil)) sc_law.nd)
      (psm_cons (psm_for (vs := [2]) (passes_of rfl) rfl (pim_range1 T.z_range (pam_cons pm_int pam_nil)) (pgm_name 2 sc_law.nd) (psm_cons (psm_set 3 (pm_callE h__law_form hr (by decide) tk (pam_cons (pm_var 1) (pam_cons (pm_lst (pam_cons pm_str (pam_cons pm_str (pam_cons pm_str pam_nil)))) (pam_cons pm_int pam_nil)))) sc_law.nd)
      (psm_cons (psm_par 11 12 rfl sc_law.nd (pam_cons (pm_callE h__law_form hr (by decide) tk (pam_cons (pm_var 1) (pam_cons (pm_lst (pam_cons pm_str (pam_cons pm_str (pam_cons pm_str pam_nil)))) (pam_cons pm_int pam_nil)))) (pam_cons (pm_callE h__law_form hr (by decide) tk (pam_cons (pm_var 1) (pam_cons (pm_lst (pam_cons pm_str (pam_cons pm_str pam_nil))) (pam_cons pm_int pam_nil)))) pam_nil)))
      (psm_cons (psm_par3 13 14 15 rfl sc_law.nd (pam_cons (pm_callE h__law_term hr (by decide) tk (pam_cons (pm_var 3) pam_nil)) (pam_cons (pm_callE h__law_term hr (by decide) tk (pam_cons (pm_var 11) pam_nil)) (pam_cons (pm_callE h__law_term hr (by decide) tk (pam_cons (pm_var 12) pam_nil)) pam_nil))))
      (psm_cons (psm_set 4 (pm_disp (ppm_cons pm_str (pm_tup (pam_cons pm_str (pam_cons pm_str pam_nil))) (ppm_cons pm_str (pm_tup (pam_cons pm_str (pam_cons pm_str pam_nil))) ppm_nil))) sc_law.nd)
      (psm_cons (psm_set 5 (pm_lst (pam_cons (pm_callE h__law_filled hr (by decide) tk (pam_cons (pm_var 3) (pam_cons (pm_disp (ppm_cons pm_str (pm_var 11) (ppm_cons pm_str (pm_var 12) ppm_nil))) pam_nil))) (pam_cons (pm_callE h__law_filled hr (by decide) tk (pam_cons (pm_var 3) (pam_cons (pm_disp (ppm_cons pm_str (pm_tup (pam_cons pm_str (pam_cons pm_str pam_nil))) ppm_nil)) pam_nil))) (pam_cons (pm_callE h__law_filled hr (by decide) tk (pam_cons (pm_var 3) (pam_cons (pm_var 4) pam_nil))) (pam_cons (pm_var 3) pam_nil))))) sc_law.nd)
      (psm_cons (psm_set 6 (pm_lst (pam_cons (pm_methKw ["bx", "ax"] h_Term_filled hr (by decide) tk (pm_var 13) (pkm_cons (pm_var 15) (pkm_cons (pm_var 14) pkm_nil)) (fun _ _ _ _ _ _ us ys hu hy => match us, ys, hu, hy with | [_], [_, _], _, _ => rfl)) (pam_cons (pm_methKw ["cx", "zz"] h_Term_filled hr (by decide) tk (pm_var 13) (pkm_cons pm_str (pkm_cons pm_non pkm_nil)) (fun _ _ _ _ _ _ us ys hu hy => match us, ys, hu, hy with | [_], [_, _], _, _ => rfl)) (pam_cons (pm_methKw ["ax", "bx"] h_Term_filled hr (by decide) tk (pm_var 13) (pkm_cons pm_str (pkm_cons pm_str pkm_nil)) (fun _ _ _ _ _ _ us ys hu hy => match us, ys, hu, hy with | [_], [_, _], _, _ => rfl)) (pam_cons (pm_methKw0 h_Term_filled hr (by decide) tk (pm_var 13) (fun _ _ _ _ _ _ us ys hu hy => match us, ys, hu, hy with | [_], [], _, _ => rfl)) pam_nil))))) sc_law.nd)
      (psm_cons (psm_if (ptm_not (ptm_tru (pm_callE h__law_same hr (by decide) tk (pam_cons (pm_lc (own := [("_law_late", 9)]) rfl sc_law.nd (pim_any (pm_var 6)) (show blkC ["_law_script", "_law_bag", "_law_turn", "_law_form_here", "_law_swap", "_law_due", "_law_found", "_law_sizes", "_law_saying", "_law_late", "_law_known", "_law_first", "_law_second", "_law_term_here", "_law_one_here", "_law_two"] (defScope s_law) _ [("_law_late", 9)] = true by decide +kernel) ⟨fun _ _ _ _ _ => (pgm_name 9 sc_law.nd), fun _ _ _ _ _ => ptsm_nil, fun _ _ _ _ _ => (pm_meth0 h_Term_text hr (by decide) takesE0 (pm_var 9))⟩) (pam_cons (pm_lc (own := [("_law_late", 9)]) rfl sc_law.nd (pim_any (pm_var 5)) (show blkC ["_law_script", "_law_bag", "_law_turn", "_law_form_here", "_law_swap", "_law_due", "_law_found", "_law_sizes", "_law_saying", "_law_late", "_law_known", "_law_first", "_law_second", "_law_term_here", "_law_one_here", "_law_two"] (defScope s_law) _ [("_law_late", 9)] = true by decide +kernel) ⟨fun _ _ _ _ _ => (pgm_name 9 sc_law.nd), fun _ _ _ _ _ => ptsm_nil, fun _ _ _ _ _ => (pm_callE h__law_text hr (by decide) takesE0 (pam_cons (pm_var 9) pam_nil))⟩) pam_nil))))) (psm_one (psm_ret pm_bl)) psm_nil)
      (psm_cons (psm_setLc (own := [("_law_late", 9)]) 7 rfl sc_law.nd (pim_any (pm_var 6)) (show blkC ["_law_script", "_law_bag", "_law_turn", "_law_form_here", "_law_swap", "_law_due", "_law_found", "_law_sizes", "_law_saying", "_law_late", "_law_known", "_law_first", "_law_second", "_law_term_here", "_law_one_here", "_law_two"] (defScope s_law) _ [("_law_late", 9)] = true by decide +kernel) ⟨fun _ _ _ _ _ => (pgm_name 9 sc_law.nd), fun _ _ _ _ _ => ptsm_nil, fun _ _ _ _ _ => (pm_tup (pam_cons (pm_meth0 h_Term_depth hr (by decide) takesE0 (pm_var 9)) (pam_cons (pm_meth0 h_Term_parts hr (by decide) takesE0 (pm_var 9)) pam_nil)))⟩)
      (psm_cons (psm_if (PWM.pt (pwm_or (ptm_not (ptm_tru (pm_callE h__law_same hr (by decide) tk (pam_cons (pm_var 7) (pam_cons (pm_lc (own := [("_law_late", 9)]) rfl sc_law.nd (pim_any (pm_var 5)) (show blkC ["_law_script", "_law_bag", "_law_turn", "_law_form_here", "_law_swap", "_law_due", "_law_found", "_law_sizes", "_law_saying", "_law_late", "_law_known", "_law_first", "_law_second", "_law_term_here", "_law_one_here", "_law_two"] (defScope s_law) _ [("_law_late", 9)] = true by decide +kernel) ⟨fun _ _ _ _ _ => (pgm_name 9 sc_law.nd), fun _ _ _ _ _ => ptsm_nil, fun _ _ _ _ _ => (pm_callE h__law_size hr (by decide) takesE0 (pam_cons (pm_var 9) pam_nil))⟩) pam_nil))))) (pwm_or (ptm_cmp (om_ne (hu64 hr)) (pm_meth0 h_Term_text hr (by decide) tk (pm_var 13)) (pm_callE h__law_text hr (by decide) tk (pam_cons (pm_var 3) pam_nil))) (pwm_or1 (ptm_cmp (om_ne (hu64 hr)) (pm_meth0 h_Term_text hr (by decide) tk (pm_var 14)) (pm_callE h__law_text hr (by decide) tk (pam_cons (pm_var 11) pam_nil))))))) (psm_one (psm_ret pm_bl)) psm_nil)
      (psm_cons (psm_set 8 (pm_tup (pam_cons (pm_callE h__law_one hr (by decide) tk (pam_cons (pm_var 1) (pam_cons (pm_lst (pam_cons pm_str (pam_cons pm_str pam_nil))) pam_nil))) (pam_cons (pm_var 3) (pam_cons (pm_var 11) pam_nil)))) sc_law.nd)
      (psm_cons (psm_set 9 (pm_methKw ["ax", "dx"] h_Statement_filled hr (by decide) tk (pm_callE h__law_statement hr (by decide) tk (pam_cons (pm_var 8) pam_nil)) (pkm_cons (pm_var 15) (pkm_cons pm_str pkm_nil)) (fun _ _ _ _ _ _ us ys hu hy => match us, ys, hu, hy with | [_], [_, _], _, _ => rfl)) sc_law.nd)
      (psm_cons (psm_set 10 (pm_disp (ppm_cons pm_str (pm_var 12) (ppm_cons pm_str (pm_tup (pam_cons pm_str (pam_cons pm_str pam_nil))) ppm_nil))) sc_law.nd)
      (psm_one (psm_if (ptm_cmp (om_ne (hu64 hr)) (pm_meth0 h_Statement_text hr (by decide) tk (pm_var 9)) (pm_callE h__law_saying_text hr (by decide) tk (pam_cons (pm_tup (pam_cons (pm_ix (pm_var 8) pm_int) (pam_cons (pm_callE h__law_filled hr (by decide) tk (pam_cons (pm_var 3) (pam_cons (pm_var 10) pam_nil))) (pam_cons (pm_callE h__law_filled hr (by decide) tk (pam_cons (pm_var 11) (pam_cons (pm_var 10) pam_nil))) pam_nil)))) pam_nil))) (psm_one (psm_ret pm_bl)) psm_nil)))))))))))))))
      (psm_one (psm_ret (pm_callE h__law_statements_filled_so hr (by decide) tk (pam_cons (pm_var 1) pam_nil))))))
theorem all_ok (T : Txt w K mg) (hP : REX.PrgOk P "/claim/cut.py") (TK__law_statements_filled_so : TabK base K mg "_law_statements_filled_so") : FnE P w K mg base 34 "law" s_law ["_law_script"] G_law := by
  have h_Term_depth := ok_Term_depth (P := P) (w := w) (base := base) T hP
  have h_Term_parts := ok_Term_parts (P := P) (w := w) (base := base) T hP
  have h_is_name := ok_is_name (P := P) (w := w) (base := base) T hP
  have h_Term___init__ := ok_Term___init__ (P := P) (w := w) (base := base) T
  have h_Term_of := ok_Term_of (P := P) (w := w) (base := base) T hP h_is_name h_Term___init__
  have h_inner_nodes := ok_inner_nodes (P := P) (w := w) (base := base) T hP
  have h_node_names := ok_node_names (P := P) (w := w) (base := base) T hP h_inner_nodes 10
  have h_Term_names := ok_Term_names (P := P) (w := w) (base := base) T hP h_node_names
  have h_put_in := ok_put_in (P := P) (w := w) (base := base) T hP h_inner_nodes 16
  have h_depth_in := ok_depth_in (P := P) (w := w) (base := base) T hP h_inner_nodes 16
  have h_parts_in := ok_parts_in (P := P) (w := w) (base := base) T hP h_inner_nodes 16
  have h_need_size := ok_need_size (P := P) (w := w) (base := base) T hP
  have h_Term_replaced := ok_Term_replaced (P := P) (w := w) (base := base) T hP h_Term___init__ h_put_in h_depth_in h_parts_in h_need_size
  have h_Term_filled := ok_Term_filled (P := P) (w := w) (base := base) T hP h_Term_of h_Term_names h_Term_replaced
  have h_node_text := ok_node_text (P := P) (w := w) (base := base) T hP 24
  have h_Term_text := ok_Term_text (P := P) (w := w) (base := base) T hP h_node_text
  have h_Statement___init__ := ok_Statement___init__ (P := P) (w := w) (base := base) T
  have h_Statement_replaced := ok_Statement_replaced (P := P) (w := w) (base := base) T hP h_Term_filled h_Statement___init__
  have h_Statement_filled := ok_Statement_filled (P := P) (w := w) (base := base) T hP h_Statement_replaced
  have h_Term___str__ := ok_Term___str__ (P := P) (w := w) (base := base) T hP h_Term_text
  have h_Statement_text := ok_Statement_text (P := P) (w := w) (base := base) T hP h_Term___str__
  have h__law_cells := ok__law_cells (P := P) (w := w) (base := base) T hP
  have h__law_draw := ok__law_draw (P := P) (w := w) (base := base) T hP
  have h__law_one := ok__law_one (P := P) (w := w) (base := base) T hP h__law_draw
  have h__law_same := ok__law_same (P := P) (w := w) (base := base) T hP 10
  have h__law_leaf := ok__law_leaf (P := P) (w := w) (base := base) T hP h__law_draw h__law_one
  have h__law_form := ok__law_form (P := P) (w := w) (base := base) T hP h__law_draw h__law_leaf 10
  have h__law_text := ok__law_text (P := P) (w := w) (base := base) T hP 24
  have h_Term_whole := ok_Term_whole (P := P) (w := w) (base := base) T hP h_Term___init__
  have h_Term_nothing := ok_Term_nothing (P := P) (w := w) (base := base) T hP h_Term___init__
  have h_joined := ok_joined (P := P) (w := w) (base := base) T hP h_Term___init__ h_Term_of h_need_size
  have h_Term___or__ := ok_Term___or__ (P := P) (w := w) (base := base) T hP h_joined
  have h_Term___ror__ := ok_Term___ror__ (P := P) (w := w) (base := base) T hP h_joined
  have h_Term___and__ := ok_Term___and__ (P := P) (w := w) (base := base) T hP h_joined
  have h_Term___rand__ := ok_Term___rand__ (P := P) (w := w) (base := base) T hP h_joined
  have h_Term___sub__ := ok_Term___sub__ (P := P) (w := w) (base := base) T hP h_joined
  have h_Term___rsub__ := ok_Term___rsub__ (P := P) (w := w) (base := base) T hP h_joined
  have h_Term___invert__ := ok_Term___invert__ (P := P) (w := w) (base := base) T hP h_joined
  have h_Term_closed := ok_Term_closed (P := P) (w := w) (base := base) T hP h_joined
  have h_Term_opened := ok_Term_opened (P := P) (w := w) (base := base) T hP h_joined
  have h_Term_rim := ok_Term_rim (P := P) (w := w) (base := base) T hP h_joined
  have h__law_term := ok__law_term (P := P) (w := w) (base := base) T hP h_Term_of h_Term_whole h_Term_nothing h_Term___or__ h_Term___ror__ h_Term___and__ h_Term___rand__ h_Term___sub__ h_Term___rsub__ h_Term___invert__ h_Term_closed h_Term_opened h_Term_rim 10
  have h__law_saying_text := ok__law_saying_text (P := P) (w := w) (base := base) T hP h__law_text
  have h_Statement_empty := ok_Statement_empty (P := P) (w := w) (base := base) T hP h_Term_of h_Statement___init__
  have h_Statement_within := ok_Statement_within (P := P) (w := w) (base := base) T hP h_Term_of h_Statement___init__
  have h_Statement_equal := ok_Statement_equal (P := P) (w := w) (base := base) T hP h_Term_of h_Statement___init__
  have h__law_statement := ok__law_statement (P := P) (w := w) (base := base) T hP h__law_term h_Statement_empty h_Statement_within h_Statement_equal
  have h__law_filled := ok__law_filled (P := P) (w := w) (base := base) T hP 10
  have h__law_size := ok__law_size (P := P) (w := w) (base := base) T hP 10
  have h__law_extra := ok__law_extra (P := P) (w := w) (base := base) T hP
  have h_lam0 := ok_lam0 (P := P) (w := w) (base := base) T hP h_Statement_filled h_Statement_within
  have h_lam1 := ok_lam1 (P := P) (w := w) (base := base) T hP h_Statement_filled h_Term___or__ h_Term___ror__ h_Statement_equal
  have h_lam2 := ok_lam2 (P := P) (w := w) (base := base) T hP h_Statement_filled h_Statement_within
  have h_lam3 := ok_lam3 (P := P) (w := w) (base := base) T hP h_Statement_filled h_Statement_within
  have h_lam4 := ok_lam4 (P := P) (w := w) (base := base) T hP h_Statement_filled h_Statement_text h_Statement_empty
  have h_lam5 := ok_lam5 (P := P) (w := w) (base := base) T hP h_Statement_filled h_Statement_empty
  have h_clos := ok_clos (P := P) (w := w) (K := K) (mg := mg) (base := base) h_lam0 h_lam1 h_lam2 h_lam3 h_lam4 h_lam5
  have h__law_why := ok__law_why (P := P) (w := w) (base := base) T hP h__law_extra h_clos
  have h__law_whys := ok__law_whys (P := P) (w := w) (base := base) T hP h__law_why
  have h__law_statements_filled_so := ok__law_statements_filled_so (P := P) (w := w) (base := base) T hP h_Term_of h__law_one h__law_same h_Term___and__ h_Term___rand__ h_Term_closed h__law_whys TK__law_statements_filled_so
  have h_law := ok_law (P := P) (w := w) (base := base) T hP h_Term_depth h_Term_parts h_Term_filled h_Term_text h_Statement_filled h_Statement_text h__law_cells h__law_one h__law_same h__law_form h__law_text h__law_term h__law_saying_text h__law_statement h__law_filled h__law_size h__law_statements_filled_so
  exact h_law
end
end Dk07
end
section
set_option maxRecDepth 100000
set_option maxHeartbeats 4000000
namespace LTm
open PySem PySem.Spec L2 RL LC LTm OrdX
open PyProof.Rows hiding St
theorem insU_len {α : Type} {lt : α → α → Bool} (x : α) : ∀ l : List α, (insU lt x l).length ≤ l.length + 1
  | [] => Nat.le_refl _
  | y :: r => by
    unfold insU
    split
    · have := insU_len (lt := lt) x r; simp only [List.length_cons]; omega
    · split <;> simp only [List.length_cons] <;> omega
theorem usrt_le {α : Type} {lt : α → α → Bool} : ∀ l : List α, (usrt lt l).length ≤ l.length
  | [] => Nat.le_refl _
  | x :: r => by
    have := usrt_le (lt := lt) r
    have h := insU_len (lt := lt) x (usrt lt r)
    rw [usrt, List.length_cons]
    omega
/-! ### the names of a form -/
noncomputable def NM : Form → List Str
  | .name x => [tx x]
  | .un _ f => NM f
  | .bin _ f g => NM f ++ NM g
  | _ => []
theorem NM_le : ∀ f : Form, (NM f).length ≤ 2 ^ dep f
  | .all => by simp [NM]
  | .none => by simp [NM]
  | .name _ => by simp [NM, dep]
  | .un u f => by
    have h := NM_le f
    have hp : 2 ^ (dep f + 1) = 2 * 2 ^ dep f := by rw [Nat.pow_succ, Nat.mul_comm]
    simp only [dep, hp, NM]; omega
  | .bin b f g => by
    have h := NM_le f
    have h' := NM_le g
    have h1 : 2 ^ dep f ≤ 2 ^ max (dep f) (dep g) := Nat.pow_le_pow_right (by decide) (by omega)
    have h2 : 2 ^ dep g ≤ 2 ^ max (dep f) (dep g) := Nat.pow_le_pow_right (by decide) (by omega)
    have hp : 2 ^ (max (dep f) (dep g) + 1) = 2 * 2 ^ max (dep f) (dep g) := by rw [Nat.pow_succ, Nat.mul_comm]
    simp only [dep, hp, NM, List.length_append]; omega
/-- v stands as the dict d, new since L -/
noncomputable def DV (L : Nat) (T : Store) (v : W) (d : KW) : Prop := dicAt T v = some d ∧ ∀ l, v = .ref l → L ≤ l
section
variable {S : Store}
theorem dv_ref {L l : Nat} {T : Store} {d : KW} (h : T[l]? = some (dicO d)) (hl : L ≤ l) : DV L T (.ref l) d := ⟨by rw [dicAt_ref]; exact dicO_at h, fun k e => by cases e; exact hl⟩
theorem DV.seq {L : Nat} {T : Store} {v : W} {d : KW} (h : DV L T v d) : seqA T v = none := by
  obtain ⟨h, _⟩ := h
  cases v with
  | ref l =>
    rw [dicAt_ref] at h
    have : lstAt T l = none := by
      unfold dicL at h
      unfold lstAt
      cases e : T[l]? with
      | none => rfl
      | some o => cases o <;> first | rfl | (rw [e] at h; cases h)
    simp [seqA, tupL, this]
  | dic ks ws => rfl
  | _ => exact absurd h (by simp [dicAt])
theorem DV.list {L : Nat} {T : Store} {v : W} {d : KW} {A : List Str} (h : DV L T v d) (hk : Ks d A) : ∃ xs : List Str, gListD v T = .ok (.lst (xs.map W.str)) T ∧ xs.Nodup ∧ (∀ x, x ∈ xs ↔ x ∈ A) ∧ xs.length ≤ A.length := by
  obtain ⟨xs, e1, e2, e3, e4⟩ := hk.keys
  refine ⟨xs, ?_, e2, e3, e4⟩
  have q2 : d.map (fun kv => wKey kv.1) = xs.map W.str := by
    have : d.map (fun kv => wKey kv.1) = (d.map (·.1)).map wKey := by rw [List.map_map]; rfl
    rw [this, e1, List.map_map]
    rfl
  unfold gListD
  rw [h.seq]
  simp only [h.1, q2]
theorem upd2_ev {G' : Fn} {x : W} {o : Option W} {l : Nat} {d : KW} {A B : List Str} (hl : S[l]? = some (dicO d)) (hd : Ks d A) (hsz : A.length + B.length ≤ lim)
    (ih : Ev (G' [x] S) fun v T => ∃ e, DV S.length T v e ∧ Ks e B ∧ Keep S.length S T) :
    Ev (mExpr (gMetD gDUpd (mVar 1) (mCons (mAp G' (mCons (mVar 2) mNil)) mNil)) [o, some (.ref l), some x] S) fun p T => p = (.nx, [o, some (.ref l), some x]) ∧ (∃ d', T[l]? = some (dicO d') ∧ Ks d' (A ++ B)) ∧ Keep l S T := by
  have hl' := get_len hl
  simp [metDK, dicAt_ref, dicO_at hl]
  refine ih.mono ?_
  rintro v T ⟨e, h2, h3, h4⟩
  have e1 : dicL T l = some d := dicO_at (by rw [h4.at_ l hl']; exact hl)
  have hne : isRefTo l v = false := by
    cases v with
    | ref k => have := h2.2 k rfl; simp [isRefTo]; omega
    | _ => rfl
  have hle : d.length + e.length ≤ lim := Nat.le_trans (Nat.add_le_add hd.len h3.len) hsz
  have hT : l < T.length := Nat.lt_of_lt_of_le hl' h4.len
  simp [gDUpd, e1, h2.1, hne, hle]
  refine ⟨⟨mergeW d e, List.getElem?_set_self hT, hd.merge h3⟩, (h4.le (Nat.le_of_lt hl')).trans (Keep.set (Nat.le_refl _) (hd.merge h3).obj)⟩
theorem names_ev : ∀ (f : Form) (n : Nat), dep f ≤ n → (NM f).length ≤ 1000 → ∀ S, Ev (G_node_names n [toW f] S) fun v T => ∃ d, DV S.length T v d ∧ Ks d (NM f) ∧ Keep S.length S T
  | f, 0, hd, _, _ => by have := dep_pos f; omega
  | .all, n + 1, _, _, S => by
    have h := inner_ok (S := S ++ [dicO []]) .all
    simp [toW, kids] at h
    simp [G_node_names, runB_eq, sh_node_names, startW, toW, h, mForL]
    exact ⟨[], dv_ref (new_dic (L := 0)) (Nat.le_refl _), Ks.nil, Keep.push (Nat.le_refl _)⟩
  | .none, n + 1, _, _, S => by
    have h := inner_ok (S := S ++ [dicO []]) .none
    simp [toW, kids] at h
    simp [G_node_names, runB_eq, sh_node_names, startW, toW, h, mForL]
    exact ⟨[], dv_ref (new_dic (L := 0)) (Nat.le_refl _), Ks.nil, Keep.push (Nat.le_refl _)⟩
  | .name x, n + 1, _, _, S => by
    simp [G_node_names, runB_eq, sh_node_names, startW, toW, mDisp, mPCons, mPNil, gDisp, kwsOf]
    refine ⟨mergeW [] [(Sum.inr (tx x), W.bl true)], ⟨dicAt_T, fun l e => by cases e⟩, (Ks.nil.put (tx x) (.bl true)).of (fun y => by simp [NM]) (by simp [NM]), Keep.refl⟩
  | .un u f, n + 1, hd, hc, S => by
    have hlim : lim = 16777216 := rfl
    have h := inner_ok (S := S ++ [dicO []]) (.un u f)
    have ih := names_ev f n (by simp [dep] at hd; omega) hc (S ++ [dicO []])
    simp only [NM] at hc
    have up := upd2_ev (o := some (toW (.un u f))) (new_dic (S := S) (L := 0)) Ks.nil (by simp; omega) ih
    cases u
    all_goals
      simp only [toW, U.w, kids, List.map_cons, List.map_nil] at h up
      simp [-mExpr_eq, G_node_names, runB_eq, sh_node_names, startW, toW, U.w, h, mForL]
      refine up.mono ?_
      rintro p T ⟨rfl, ⟨d', h1, h2⟩, h3⟩
      simp
      exact ⟨d', dv_ref h1 (Nat.le_refl _), h2.of (fun x => by simp [NM]) (by simp [NM]), (Keep.push (Nat.le_refl _)).trans h3⟩
  | .bin b f g, n + 1, hd, hc, S => by
    have hlim : lim = 16777216 := rfl
    have h := inner_ok (S := S ++ [dicO []]) (.bin b f g)
    simp [NM] at hc
    have ih := names_ev f n (by simp [dep] at hd; omega) (by omega) (S ++ [dicO []])
    have up := upd2_ev (o := some (toW (.bin b f g))) (new_dic (S := S) (L := 0)) Ks.nil (by simp; omega) ih
    cases b
    all_goals
      simp only [toW, B.w, kids, List.map_cons, List.map_nil] at h up
      simp [-mExpr_eq, G_node_names, runB_eq, sh_node_names, startW, toW, B.w, h, mForL]
      refine up.mono ?_
      rintro p T ⟨rfl, ⟨d', h1, h2⟩, h3⟩
      have ih' := names_ev g n (by simp [dep] at hd; omega) (by omega) T
      simp [-mExpr_eq]
      refine (upd2_ev h1 h2 (by simp; omega) ih').mono ?_
      rintro p T' ⟨rfl, ⟨d2, g1, g2⟩, g3⟩
      simp
      exact ⟨d2, dv_ref g1 (Nat.le_refl _), g2.of (fun x => by simp [NM]) (by simp [NM]), ((Keep.push (Nat.le_refl _)).trans h3).trans g3⟩
/-- names() -/
theorem names_ok {f : Form} (hd : dep f ≤ 5) : Ev (G_Term_names [termW f] S) fun v T => ∃ l, v = .ref l ∧ S.length ≤ l ∧ lstAt T l = some ((usrt ltS (NM f)).map W.str) ∧ Keep S.length S T := by
  have hz := NM_le f
  have hp : 2 ^ dep f ≤ 2 ^ 5 := Nat.pow_le_pow_right (by decide) hd
  simp [G_Term_names, runB_eq, sh_Term_names, startW]
  refine (names_ev f 10 (by omega) (by omega) S).mono ?_
  rintro v T ⟨d, h2, h3, h4⟩
  obtain ⟨xs, e1, e2, e3, e4⟩ := h2.list h3
  have h64 : xs.length < 64 := by omega
  have hT := h4.len
  simp [e1, gSrtSR, strsW_str, h64, srt_usrt e2 e3]
  refine ⟨hT, ?_, h4.trans (Keep.push hT (no_strs _))⟩
  simp [lstAt]
theorem gListOf_tup {ws : List W} : gListOf (.tup ws) S = .ok (.lst ws) S := rfl
/-! ### the law's own -/
/-- the names so far -/
structure Sofar (L : Nat) (S0 T : Store) (l : Nat) (A : List Str) : Prop where
  le : L ≤ l
  ex : ∃ xs : List Str, lstAt T l = some (xs.map W.str) ∧ (∀ x, x ∈ xs ↔ x ∈ A) ∧ xs.length ≤ A.length
  kp : Keep L S0 T
end
end LTm
end
section
set_option maxRecDepth 100000
set_option maxHeartbeats 4000000
namespace Dk07
open PySem PySem.Spec L2 RL OrdX
open LC
open LTm hiding G_Term___and__ G_Term___invert__ G_Term___or__ G_Term___rand__ G_Term___ror__ G_Term___rsub__ G_Term___sub__ G_Term_closed G_Term_of G_Term_opened G_Term_rim G__law_term G_joined G_need_size joined1 joined2 need_ok of_name of_term opG opR opr_ok sh_Term___and__ sh_Term___invert__ sh_Term___or__ sh_Term___rand__ sh_Term___ror__ sh_Term___rsub__ sh_Term___sub__ sh_Term_closed sh_Term_of sh_Term_opened sh_Term_rim sh__law_term sh_joined sh_need_size
open LTj
open PyProof.Rows hiding St
theorem lim_of {n : Nat} (h : n ≤ 4096) : n ≤ lim := Nat.le_trans h (by decide)
@[simp] theorem bind_exc {α β : Type} {S : Store} {c : Str} {ns : List Str} {ws : List W} {K : α → Store → Res β} : (Res.exc c ns ws S : Res α).bind K = .exc c ns ws S := rfl
/-! ### forms in the place of names -/
noncomputable def sub (τ : Str → Option Form) : Form → Form
  | .name x => (τ (tx x)).getD (.name x)
  | .un u f => .un u (sub τ f)
  | .bin b f g => .bin b (sub τ f) (sub τ g)
  | .all => .all
  | .none => .none
theorem sub_congr {τ τ' : Str → Option Form} : ∀ {f : Form}, (∀ x ∈ NM f, τ x = τ' x) → sub τ f = sub τ' f
  | .name x, h => by simp [sub, h (tx x) (by simp [NM])]
  | .un u f, h => by simp [sub, sub_congr (f := f) fun x m => h x (by simpa [NM] using m)]
  | .bin b f g, h => by simp [sub, sub_congr (f := f) fun x m => h x (by simp [NM, m]), sub_congr (f := g) fun x m => h x (by simp [NM, m])]
  | .all, _ => rfl
  | .none, _ => rfl
section
variable {S : Store} {τ : Str → Option Form} {kws : KW}
/-- a dict that has F of what is put in -/
noncomputable def Has (kws : KW) (τ : Str → Option Form) (F : Form → W) (f : Form) : Prop := ∀ x ∈ NM f, valW kws (.inr x) = (τ x).map F
theorem get2_ok {x d : W} {k : Str} {kws : KW} : gDGet2 (dicT kws) (.str k) d S = .ok ((valW kws (.inr k)).getD d) S := by
  simp [gDGet2, keyW]
theorem depth_sub : ∀ (f : Form) (n : Nat), dep f ≤ n → Has kws τ (fun g => .int (dep g)) f → G_depth_in n [toW f, dicT kws] S = .ok (.int (dep (sub τ f))) S
  | f, 0, hd, _ => absurd (dep_pos f) (by omega)
  | .all, n + 1, hd, _ => by
    have hi := inner_ok (S := S) .all
    simp [toW, LTm.kids] at hi
    simp [G_depth_in, runB_eq, sh_depth_in, startW, toW, hi, dep, sub, wipeW, gMax, intsW, LTm.kids]
  | .none, n + 1, hd, _ => by
    have hi := inner_ok (S := S) .none
    simp [toW, LTm.kids] at hi
    simp [G_depth_in, runB_eq, sh_depth_in, startW, toW, hi, dep, sub, wipeW, gMax, intsW, LTm.kids]
  | .name x, n + 1, hd, h => by
    have h1 := h (tx x) (by simp [NM])
    have h2 := fun d => get2_ok (S := S) (x := .non) (d := d) (k := tx x) (kws := kws)
    simp [G_depth_in, runB_eq, sh_depth_in, startW, toW, sub, mDGet2, h2, h1]
    cases τ (tx x) <;> simp [dep]
  | .un u f, n + 1, hd, h => by
    have hi := inner_ok (S := S) (.un u f)
    have ih := depth_sub f n (by simp [dep] at hd; omega) fun x m => h x (by simpa [NM] using m)
    simp [toW, LTm.kids] at hi
    have hu : u.w ≠ Wd.name := by cases u <;> decide
    simp [G_depth_in, runB_eq, sh_depth_in, startW, toW, hi, dep, sub, hu, wipeW, gMax, intsW, LTm.kids, ih]
    omega
  | .bin b f g, n + 1, hd, h => by
    have hi := inner_ok (S := S) (.bin b f g)
    have ih := depth_sub f n (by simp [dep] at hd; omega) fun x m => h x (by simp [NM, m])
    have ih' := depth_sub g n (by simp [dep] at hd; omega) fun x m => h x (by simp [NM, m])
    simp [toW, LTm.kids] at hi
    have hu : b.w ≠ Wd.name := by cases b <;> decide
    simp [G_depth_in, runB_eq, sh_depth_in, startW, toW, hi, dep, sub, hu, wipeW, gMax, intsW, LTm.kids, ih, ih']
    omega
theorem parts_sub : ∀ (f : Form) (n : Nat), dep f ≤ n → Has kws τ (fun g => .int (prt g)) f → G_parts_in n [toW f, dicT kws] S = .ok (.int (prt (sub τ f))) S
  | f, 0, hd, _ => absurd (dep_pos f) (by omega)
  | .all, n + 1, hd, _ => by
    have hi := inner_ok (S := S) .all
    simp [toW, LTm.kids] at hi
    simp [G_parts_in, runB_eq, sh_parts_in, startW, toW, hi, prt, sub, wipeW, gSum, intsW, LTm.kids]
  | .none, n + 1, hd, _ => by
    have hi := inner_ok (S := S) .none
    simp [toW, LTm.kids] at hi
    simp [G_parts_in, runB_eq, sh_parts_in, startW, toW, hi, prt, sub, wipeW, gSum, intsW, LTm.kids]
  | .name x, n + 1, hd, h => by
    have h1 := h (tx x) (by simp [NM])
    have h2 := fun d => get2_ok (S := S) (x := .non) (d := d) (k := tx x) (kws := kws)
    simp [G_parts_in, runB_eq, sh_parts_in, startW, toW, sub, mDGet2, h2, h1]
    cases τ (tx x) <;> simp [prt]
  | .un u f, n + 1, hd, h => by
    have hi := inner_ok (S := S) (.un u f)
    have ih := parts_sub f n (by simp [dep] at hd; omega) fun x m => h x (by simpa [NM] using m)
    simp [toW, LTm.kids] at hi
    have hu : u.w ≠ Wd.name := by cases u <;> decide
    simp [G_parts_in, runB_eq, sh_parts_in, startW, toW, hi, prt, sub, hu, wipeW, gSum, intsW, LTm.kids, ih]
    omega
  | .bin b f g, n + 1, hd, h => by
    have hi := inner_ok (S := S) (.bin b f g)
    have ih := parts_sub f n (by simp [dep] at hd; omega) fun x m => h x (by simp [NM, m])
    have ih' := parts_sub g n (by simp [dep] at hd; omega) fun x m => h x (by simp [NM, m])
    simp [toW, LTm.kids] at hi
    have hu : b.w ≠ Wd.name := by cases b <;> decide
    simp [G_parts_in, runB_eq, sh_parts_in, startW, toW, hi, prt, sub, hu, wipeW, gSum, intsW, LTm.kids, ih, ih']
    omega
theorem put_sub : ∀ (f : Form) (n : Nat), dep f ≤ n → Has kws τ toW f → G_put_in n [toW f, dicT kws] S = .ok (toW (sub τ f)) S
  | f, 0, hd, _ => absurd (dep_pos f) (by omega)
  | .all, n + 1, hd, _ => by
    have hi := inner_ok (S := S) .all
    simp [toW, LTm.kids] at hi
    simp [G_put_in, runB_eq, sh_put_in, startW, toW, hi, sub, wipeW, LTm.kids]
  | .none, n + 1, hd, _ => by
    have hi := inner_ok (S := S) .none
    simp [toW, LTm.kids] at hi
    simp [G_put_in, runB_eq, sh_put_in, startW, toW, hi, sub, wipeW, LTm.kids]
  | .name x, n + 1, hd, h => by
    have h1 := h (tx x) (by simp [NM])
    have h2 := fun d => get2_ok (S := S) (x := .non) (d := d) (k := tx x) (kws := kws)
    simp [G_put_in, runB_eq, sh_put_in, startW, toW, sub, mDGet2, h2, h1]
    cases τ (tx x) <;> simp [toW]
  | .un u f, n + 1, hd, h => by
    have hi := inner_ok (S := S) (.un u f)
    have ih := put_sub f n (by simp [dep] at hd; omega) fun x m => h x (by simpa [NM] using m)
    simp [toW, LTm.kids] at hi
    have hu : u.w ≠ Wd.name := by cases u <;> decide
    simp [G_put_in, runB_eq, sh_put_in, startW, toW, hi, sub, hu, wipeW, LTm.kids, ih]
  | .bin b f g, n + 1, hd, h => by
    have hi := inner_ok (S := S) (.bin b f g)
    have ih := put_sub f n (by simp [dep] at hd; omega) fun x m => h x (by simp [NM, m])
    have ih' := put_sub g n (by simp [dep] at hd; omega) fun x m => h x (by simp [NM, m])
    simp [toW, LTm.kids] at hi
    have hu : b.w ≠ Wd.name := by cases b <;> decide
    simp [G_put_in, runB_eq, sh_put_in, startW, toW, hi, sub, hu, wipeW, LTm.kids, ih, ih']
theorem tupOf {ws : List W} : gTupOf (.lst ws) S = .ok (.tup ws) S := rfl
theorem cut1 {a : W} : cutW [a] (some 1) none = [] := rfl
theorem cut2 {a b : W} : cutW [a, b] (some 1) none = [b] := rfl
theorem cut3 {a b c : W} : cutW [a, b, c] (some 1) none = [b, c] := rfl
theorem addT {a b : List W} (h : a.length + b.length ≤ lim) : gAdd (.tup a) (.tup b) S = .ok (.tup (a ++ b)) S := by simp [gAdd, h]
/-- the law's own way -/
theorem law_filled_ok : ∀ (f : Form) (n : Nat), dep f ≤ n → Has kws τ toW f → G__law_filled n [toW f, dicT kws] S = .ok (toW (sub τ f)) S
  | f, 0, hd, _ => absurd (dep_pos f) (by omega)
  | .all, n + 1, hd, _ => by
    have l0 : (0 : Nat) < lim := by decide
    have l1 : (1 : Nat) < lim := by decide
    have l2 : 1 + 1 ≤ lim := by decide
    have l3 : 1 + 2 ≤ lim := by decide
    have l4 : 1 + 0 ≤ lim := by decide
    simp [G__law_filled, runB_eq, sh__law_filled, startW, toW, sub, wipeW, cut1, cut2, cut3, tupOf, l0, l1, l2, l3, l4, addT]
  | .none, n + 1, hd, _ => by
    have l0 : (0 : Nat) < lim := by decide
    have l1 : (1 : Nat) < lim := by decide
    have l2 : 1 + 1 ≤ lim := by decide
    have l3 : 1 + 2 ≤ lim := by decide
    have l4 : 1 + 0 ≤ lim := by decide
    simp [G__law_filled, runB_eq, sh__law_filled, startW, toW, sub, wipeW, cut1, cut2, cut3, tupOf, l0, l1, l2, l3, l4, addT]
  | .name x, n + 1, hd, h => by
    have h1 := h (tx x) (by simp [NM])
    have h2 := fun d => get2_ok (S := S) (x := .non) (d := d) (k := tx x) (kws := kws)
    simp [G__law_filled, runB_eq, sh__law_filled, startW, toW, sub, mDGet2, h2, h1]
    cases τ (tx x) <;> simp [toW]
  | .un u f, n + 1, hd, h => by
    have ih := law_filled_ok f n (by simp [dep] at hd; omega) fun x m => h x (by simpa [NM] using m)
    have l0 : (0 : Nat) < lim := by decide
    have l1 : (1 : Nat) < lim := by decide
    have l2 : 1 + 1 ≤ lim := by decide
    have l3 : 1 + 2 ≤ lim := by decide
    have l4 : 1 + 0 ≤ lim := by decide
    have hu : u.w ≠ Wd.name := by cases u <;> decide
    simp [G__law_filled, runB_eq, sh__law_filled, startW, toW, sub, hu, wipeW, cut1, cut2, cut3, tupOf, l0, l1, l2, l3, l4, addT, ih]
  | .bin b f g, n + 1, hd, h => by
    have ih := law_filled_ok f n (by simp [dep] at hd; omega) fun x m => h x (by simp [NM, m])
    have ih' := law_filled_ok g n (by simp [dep] at hd; omega) fun x m => h x (by simp [NM, m])
    have l0 : (0 : Nat) < lim := by decide
    have l1 : (1 : Nat) < lim := by decide
    have l2 : 1 + 1 ≤ lim := by decide
    have l3 : 1 + 2 ≤ lim := by decide
    have l4 : 1 + 0 ≤ lim := by decide
    have hu : b.w ≠ Wd.name := by cases b <;> decide
    simp [G__law_filled, runB_eq, sh__law_filled, startW, toW, sub, hu, wipeW, cut1, cut2, cut3, tupOf, l0, l1, l2, l3, l4, addT, ih, ih']
end
end Dk07
end
section
set_option maxRecDepth 100000
set_option maxHeartbeats 4000000
namespace Dk07
open PySem PySem.Spec L2 RL OrdX
open LC
open LTm hiding G_Term___and__ G_Term___invert__ G_Term___or__ G_Term___rand__ G_Term___ror__ G_Term___rsub__ G_Term___sub__ G_Term_closed G_Term_of G_Term_opened G_Term_rim G__law_term G_joined G_need_size joined1 joined2 need_ok of_name of_term opG opR opr_ok sh_Term___and__ sh_Term___invert__ sh_Term___or__ sh_Term___rand__ sh_Term___ror__ sh_Term___rsub__ sh_Term___sub__ sh_Term_closed sh_Term_of sh_Term_opened sh_Term_rim sh__law_term sh_joined sh_need_size
open LTj
open PyProof.Rows hiding St
/-! ### dicts that comprehensions make -/
noncomputable def tab (ys : List Str) (F : Str → W) : KW := ys.map fun x => (Sum.inr x, F x)
theorem tab_val {ys : List Str} {F : Str → W} {x : Str} : valW (tab ys F) (.inr x) = if x ∈ ys then some (F x) else none := by
  induction ys with
  | nil => rfl
  | cons y r ih =>
    by_cases h : y = x
    · subst h; simp [tab, valW]
    · have h' : ¬ (x = y) := fun z => h z.symm
      have : valW (tab (y :: r) F) (.inr x) = valW (tab r F) (.inr x) := by simp [tab, valW, h]
      rw [this, ih]
      simp [h']
theorem put_tab {zs : List Str} {F : Str → W} {x : Str} (h : x ∉ zs) : putW (tab zs F) (.inr x) (F x) = tab (zs ++ [x]) F := by
  have : (tab zs F).any (fun kv => decide (kv.1 = .inr x)) = false := by
    rw [List.any_eq_false]
    intro kv m
    obtain ⟨y, hy, rfl⟩ := List.mem_map.mp m
    simp
    exact fun z => h (z ▸ hy)
  unfold putW
  rw [this, if_neg Bool.false_ne_true]
  simp [tab]
section
variable {S : Store}
theorem tab_len {zs : List Str} {F : Str → W} : (tab zs F).length = zs.length := by simp [tab]
theorem get_tab {ys : List Str} {F : Str → W} {x : Str} (h : x ∈ ys) : gDGet (dicT (tab ys F)) (.str x) S = .ok (F x) S := by
  simp [gDGet, keyW, tab_val, h]
theorem dcL_tab {mv : SM W} {F : Str → W} {a b c d : Option W} : ∀ (ys zs : List Str), (∀ x ∈ ys, mv [a, b, c, d, some (.str x)] S = .ok (F x) S) → (zs ++ ys).Nodup → zs.length + ys.length < 1000 →
    mDcL (gNm 4) mYes (mVar 4) mv [a, b, c, d, none] (ys.map W.str) (tab zs F) S = .ok (tab (zs ++ ys) F) S
  | [], zs, _, _, _ => by simp [mDcL]
  | x :: r, zs, h, nd, hl => by
    have hx := h x List.mem_cons_self
    have hlim : lim = 16777216 := rfl
    rw [List.length_cons] at hl
    have hz : (tab zs F).length < lim := by rw [tab_len]; omega
    have nx : x ∉ zs := fun m => by
      rw [List.nodup_append] at nd
      exact nd.2.2 x m x List.mem_cons_self rfl
    have ih := dcL_tab (mv := mv) (F := F) (a := a) (b := b) (c := c) (d := d) r (zs ++ [x]) (fun y m => h y (List.mem_cons_of_mem _ m)) (by simpa using nd) (by simp; omega)
    have step : mDcT (gNm 4) mYes (mVar 4) mv [a, b, c, d, none] (.str x) (tab zs F) S = .ok (tab (zs ++ [x]) F) S := by
      simp [mDcT, hx, keyW, hz, put_tab nx]
    rw [List.map_cons]
    show (mDcT (gNm 4) mYes (mVar 4) mv [a, b, c, d, none] (.str x) (tab zs F) S).bind _ = _
    rw [step]
    show mDcL _ _ _ _ _ _ _ _ = _
    rw [ih]
    simp
/-- what stands in the place of names -/
noncomputable def tau (ys : List Str) (G : Str → Form) : Str → Option Form := fun x => if x ∈ ys then some (G x) else none
theorem has_tab {ys : List Str} {G : Str → Form} {F : Form → W} {f : Form} : Has (tab ys fun x => F (G x)) (tau ys G) F f := fun x _ => by
  rw [tab_val]
  unfold tau
  split <;> rfl
noncomputable abbrev exD {α : Type} (S : Store) : Res α := .exc "TooDeep" ["limit", "code"] [.int 40, .str "TooDeep"] S
noncomputable abbrev exM {α : Type} (S : Store) : Res α := .exc "TooMany" ["limit", "code"] [.int 2000, .str "TooMany"] S
noncomputable abbrev exT {α : Type} (w : W) (S : Store) : Res α := .exc "InvalidTerm" ["value", "code"] [w, .str "InvalidTerm"] S
theorem makeD : gMakeX "TooDeep" p_TooDeep l_TooDeep [.int 40] S = .ok (.exn "TooDeep" ["limit", "code"] [.int 40, .str "TooDeep"]) S := by rfl
theorem makeM : gMakeX "TooMany" p_TooMany l_TooMany [.int 2000] S = .ok (.exn "TooMany" ["limit", "code"] [.int 2000, .str "TooMany"]) S := by rfl
theorem makeT {w : W} : gMakeX "InvalidTerm" p_InvalidTerm l_InvalidTerm [w] S = .ok (.exn "InvalidTerm" ["value", "code"] [w, .str "InvalidTerm"]) S := by rfl
theorem need_deep {i j : Int} (hi : 40 < i) : G_need_size [.int i, .int j] S = exD S := by
  simp [G_need_size, runB_eq, sh_need_size, startW, c_MOST_DEEP, c_MOST_PARTS, hi, mRaise, makeD]
theorem need_many {i j : Int} (hi : i ≤ 40) (hj : 2000 < j) : G_need_size [.int i, .int j] S = exM S := by
  have h1 : ¬ 40 < i := by omega
  simp [G_need_size, runB_eq, sh_need_size, startW, c_MOST_DEEP, c_MOST_PARTS, h1, hj, mRaise, makeM]
/-- how a term comes out whose form would be g -/
noncomputable def outF (g : Form) (S : Store) : Res W := if 40 < dep g then exD S else if 2000 < prt g then exM S else .ok (termW g) S
theorem replaced_res {f : Form} {ys : List Str} {G : Str → Form} (hd : dep f ≤ 16) (nd : ys.Nodup) (hl : ys.length < 1000) :
    G_Term_replaced [termW f, dicT (tab ys fun x => termW (G x))] S = outF (sub (tau ys G) f) S := by
  have keys : ((tab ys fun x => termW (G x)).map (·.1)).map wKey = ys.map W.str := by simp [tab, wKey, Function.comp_def]
  have it : ∀ s : Env', mVar 1 s S = .ok (dicT (tab ys fun x => termW (G x))) S → mItemsD (mVar 1) s S = .ok (.fix (ys.map W.str)) S := fun s h => by
    simp [mItemsD, h, dicT, keys]
  have col : ∀ (fl : Str) (F : Form → W), (∀ g S, gFld "Term" fl (termW g) S = .ok (F g) S) → ∀ c d : Option W, mDc (mItemsD (mVar 1)) [4] (gNm 4) mYes (mVar 4) (mUn (gFld "Term" fl) (mBin gDGet (mVar 1) (mVar 4))) [some (termW f), some (dicT (tab ys fun x => termW (G x))), c, d, none] S = .ok (dicT (tab ys fun x => F (G x))) S := fun fl F hF c d => by
    have h := dcL_tab (S := S) (mv := mUn (gFld "Term" fl) (mBin gDGet (mVar 1) (mVar 4))) (F := fun x => F (G x)) (a := some (termW f)) (b := some (dicT (tab ys fun x => termW (G x)))) (c := c) (d := d) ys [] (fun x m => by
      simp [get_tab m, hF]) (by simpa using nd) (by simpa using hl)
    unfold mDc
    rw [it _ rfl, ok_bind]
    show (mDcL _ _ _ _ (wipeW _ _) _ _ _).bind _ = _
    have e0 : (tab [] fun x => F (G x)) = [] := rfl
    rw [e0] at h
    simp only [wipeW, List.set_cons_succ, List.set_cons_zero]
    rw [h]
    simp
  have c1 := fun c d => col "deep" (fun g => .int (dep g)) (fun g S => rfl) c d
  have c2 := fun c d => col "part_count" (fun g => .int (prt g)) (fun g S => rfl) c d
  have c3 := fun c d => col "node" toW (fun g S => rfl) c d
  have d1 := depth_sub (S := S) f 16 hd (has_tab (ys := ys) (G := G) (F := fun g => .int (dep g)))
  have d2 := parts_sub (S := S) f 16 hd (has_tab (ys := ys) (G := G) (F := fun g => .int (prt g)))
  have d3 := put_sub (S := S) f 16 hd (has_tab (ys := ys) (G := G) (F := toW))
  unfold outF
  by_cases h1 : 40 < dep (sub (tau ys G) f)
  · have n := need_deep (S := S) (i := dep (sub (tau ys G) f)) (j := prt (sub (tau ys G) f)) (by omega)
    rw [if_pos h1]
    simp [G_Term_replaced, runB_eq, sh_Term_replaced, startW, c1, c2, d1, d2, n]
  · rw [if_neg h1]
    by_cases h2 : 2000 < prt (sub (tau ys G) f)
    · have n := need_many (S := S) (i := dep (sub (tau ys G) f)) (j := prt (sub (tau ys G) f)) (by omega) (by omega)
      rw [if_pos h2]
      simp [G_Term_replaced, runB_eq, sh_Term_replaced, startW, c1, c2, d1, d2, n]
    · have n := need_ok (S := S) (i := dep (sub (tau ys G) f)) (j := prt (sub (tau ys G) f)) (by omega) (by omega)
      rw [if_neg h2]
      simp [-gMake_eq, G_Term_replaced, runB_eq, sh_Term_replaced, startW, c1, c2, c3, d1, d2, d3, n, make_term]
end
end Dk07
end
section
set_option maxRecDepth 100000
set_option maxHeartbeats 4000000
namespace Dk07
open PySem PySem.Spec L2 RL OrdX
open LC
open LTm hiding G_Term___and__ G_Term___invert__ G_Term___or__ G_Term___rand__ G_Term___ror__ G_Term___rsub__ G_Term___sub__ G_Term_closed G_Term_of G_Term_opened G_Term_rim G__law_term G_joined G_need_size joined1 joined2 need_ok of_name of_term opG opR opr_ok sh_Term___and__ sh_Term___invert__ sh_Term___or__ sh_Term___rand__ sh_Term___ror__ sh_Term___rsub__ sh_Term___sub__ sh_Term_closed sh_Term_of sh_Term_opened sh_Term_rim sh__law_term sh_joined sh_need_size
open LTj
open PyProof.Rows hiding St
section
variable {S : Store}
/-- it is given -/
noncomputable def giv (kws : KW) (x : Str) : Bool := (valW kws (.inr x)).isSome
theorem giv_some {kws : KW} {x : Str} (h : giv kws x = true) : ∃ w, valW kws (.inr x) = some w := Option.isSome_iff_exists.mp h
theorem fill_step {kws : KW} {G : Str → Form} {a : Option W} {x : Str} {zs : List Str} {T : Store} (hk : ∀ w, valW kws (.inr x) = some w → ∀ S, G_Term_of [w] S = .ok (termW (G x)) S) (hz : zs.length < 1000) (nx : x ∉ zs) :
    mDcTX (gNm 2) (mBT (gDIn false) (mVar 2) (mVar 1)) (mVar 2) (mAp G_Term_of (mCons (mBin gDGet (mVar 1) (mVar 2)) mNil)) [a, some (dicT kws), none] (.str x) (tab zs fun x => termW (G x)) T = .ok (tab (zs ++ if giv kws x then [x] else []) fun x => termW (G x)) T := by
  have hlim : lim = 16777216 := rfl
  have hz' : (tab zs fun x => termW (G x)).length < lim := by rw [tab_len]; omega
  have pt := put_tab (F := fun x => termW (G x)) nx
  have di : gDIn false (.str x) (dicT kws) T = .ok (.bl (giv kws x)) T := by simp [gDIn, keyW, giv, xorB]
  cases e : giv kws x with
  | false =>
    rw [e] at di
    simp [di]
  | true =>
    rw [e] at di
    obtain ⟨w, hw⟩ := giv_some e
    have dg : gDGet (dicT kws) (.str x) T = .ok w T := by simp [gDGet, keyW, hw]
    simp [di, dg, hk w hw, keyW, hz', pt]
theorem fill_n {l : Nat} {T : Store} {xs : List Str} {kws : KW} {G : Str → Form} {a : Option W} (h : lstAt T l = some (xs.map W.str)) (nd : xs.Nodup) (hk : ∀ x ∈ xs, ∀ w, valW kws (.inr x) = some w → ∀ S, G_Term_of [w] S = .ok (termW (G x)) S) :
    ∀ (n i : Nat) (zs : List Str), xs.length - i < n → zs.length + (xs.length - i) < 1000 → (∀ x ∈ xs.drop i, x ∉ zs) →
      mDcNX (gNm 2) (mBT (gDIn false) (mVar 2) (mVar 1)) (mVar 2) (mAp G_Term_of (mCons (mBin gDGet (mVar 1) (mVar 2)) mNil)) [a, some (dicT kws), none] (nxL l) n i (tab zs fun x => termW (G x)) T = .ok (tab (zs ++ (xs.drop i).filter (giv kws)) fun x => termW (G x)) T
  | 0, i, zs, hn, _, _ => absurd hn (Nat.not_lt_zero _)
  | n + 1, i, zs, hn, hz, hx => by
    unfold mDcNX
    rcases Nat.lt_or_ge i xs.length with hi | hi
    · have e : nxL l i T = some (some (.str xs[i])) := by simp [nxL, h, hi]
      rw [e]
      have ed : xs.drop i = xs[i] :: xs.drop (i + 1) := List.drop_eq_getElem_cons hi
      have st := fill_step (a := a) (T := T) (hk xs[i] (List.getElem_mem hi)) (by omega) (hx xs[i] (by rw [ed]; exact List.mem_cons_self))
      have nd' : ∀ y ∈ xs.drop (i + 1), y ≠ xs[i] := fun y m z => by
        have p : (xs.drop i).Nodup := nd.sublist (List.drop_sublist _ _)
        rw [ed, List.nodup_cons] at p
        exact p.1 (z ▸ m)
      have ih := fill_n (a := a) h nd hk n (i + 1) (zs ++ if giv kws xs[i] then [xs[i]] else []) (by omega) (by rw [List.length_append]; split <;> simp <;> omega) (fun y m q => by
        rcases List.mem_append.mp q with q | q
        · exact hx y (by rw [ed]; exact List.mem_cons_of_mem _ m) q
        · split at q
          · exact nd' y m (List.mem_singleton.mp q)
          · cases q)
      dsimp only
      rw [st]
      show mDcNX _ _ _ _ _ _ _ _ _ _ = _
      rw [ih, ed, List.filter_cons, List.append_assoc]
      cases giv kws xs[i] <;> rfl
    · have e : nxL l i T = some none := by
        have : xs.length ≤ i := hi
        simp [nxL, h, this]
      rw [e, List.drop_eq_nil_of_le hi]
      simp
theorem usrt_nd (l : List Str) : (usrt ltS l).Nodup := (usrt_pw totS l).imp fun {a b} h e => by
  subst e
  have := totS.irr a
  rw [h] at this
  cases this
noncomputable def tauK (kws : KW) (G : Str → Form) : Str → Option Form := fun x => if giv kws x = true then some (G x) else none
theorem m_names {f : Form} {g : Fn} {mr : SM (List W)} {s : Env'} : methK "Term" "names" g mr s (termW f) S = (mr s S).bind fun us S2 => g (termW f :: us) S2 := methK_term (by decide +kernel)
theorem m_repl {f : Form} {g : Fn} {mr : SM (List W)} {s : Env'} : methK "Term" "replaced" g mr s (termW f) S = (mr s S).bind fun us S2 => g (termW f :: us) S2 := methK_term (by decide +kernel)
theorem filled_res {f : Form} {kws : KW} {G : Str → Form} (hd : dep f ≤ 5) (hk : ∀ x ∈ NM f, ∀ w, valW kws (.inr x) = some w → ∀ S, G_Term_of [w] S = .ok (termW (G x)) S) :
    ∃ T, Keep S.length S T ∧ G_Term_filled [termW f, dicT kws] S = outF (sub (tauK kws G) f) T := by
  obtain ⟨v, T, e, l, rfl, h1, h2, h3⟩ := names_ok (S := S) hd
  refine ⟨T, h3, ?_⟩
  have hz := NM_le f
  have hp : 2 ^ dep f ≤ 2 ^ 5 := Nat.pow_le_pow_right (by decide) hd
  have hu := usrt_le (lt := ltS) (NM f)
  have ht : turns = 100000 := rfl
  have fn := fill_n (a := some (termW f)) (G := G) h2 (usrt_nd (NM f)) (fun x m => hk x ((mem_usrt totS x (NM f)).mp m)) turns 0 [] (by omega) (by simp; omega) (fun x _ => by simp)
  have e0 : (tab [] fun x => termW (G x)) = [] := rfl
  rw [e0, List.drop_zero, List.nil_append] at fn
  have rr := replaced_res (S := T) (f := f) (G := G) (ys := (usrt ltS (NM f)).filter (giv kws)) (by omega) ((usrt_nd _).filter _) (Nat.lt_of_le_of_lt (List.length_filter_le _ _) (by omega))
  have sc : sub (tau ((usrt ltS (NM f)).filter (giv kws)) G) f = sub (tauK kws G) f := sub_congr fun x m => by
    unfold tau tauK
    have : x ∈ (usrt ltS (NM f)).filter (giv kws) ↔ giv kws x = true := by
      rw [List.mem_filter, mem_usrt totS]
      exact ⟨fun h => h.2, fun h => ⟨m, h⟩⟩
    simp [this]
  rw [sc] at rr
  have e1 : mDcIX (.gen (nxL l)) (gNm 2) (mBT (gDIn false) (mVar 2) (mVar 1)) (mVar 2) (mAp G_Term_of (mCons (mBin gDGet (mVar 1) (mVar 2)) mNil)) [some (termW f), some (dicT kws), none] T = .ok (tab ((usrt ltS (NM f)).filter (giv kws)) fun x => termW (G x)) T := fn
  simp [G_Term_filled, runB_eq, sh_Term_filled, startW, m_repl, m_names, e, h2, wipeW, e1, rr]
  unfold outF
  split
  · rfl
  · split <;> rfl
/-- a wrong one in the place of a name -/
theorem filled_bad {x : List Nat} {kws : KW} {w : W} (hw : valW kws (.inr (tx x)) = some w) (hb : ∀ S, G_Term_of [w] S = exT w S) : ∃ T, Keep S.length S T ∧ G_Term_filled [termW (.name x), dicT kws] S = exT w T := by
  obtain ⟨v, T, e, l, rfl, h1, h2, h3⟩ := names_ok (S := S) (f := .name x) (by simp [dep])
  refine ⟨T, h3, ?_⟩
  have h2' : lstAt T l = some [W.str (tx x)] := h2
  have ht : turns = 99999 + 1 := rfl
  have e0 : nxL l 0 T = some (some (.str (tx x))) := by simp [nxL, h2']
  have di : gDIn false (.str (tx x)) (dicT kws) T = .ok (.bl true) T := by simp [gDIn, keyW, hw, xorB]
  have dg : gDGet (dicT kws) (.str (tx x)) T = .ok w T := by simp [gDGet, keyW, hw]
  have e1 : mDcIX (.gen (nxL l)) (gNm 2) (mBT (gDIn false) (mVar 2) (mVar 1)) (mVar 2) (mAp G_Term_of (mCons (mBin gDGet (mVar 1) (mVar 2)) mNil)) [some (termW (.name x)), some (dicT kws), none] T = exT w T := by
    show mDcNX _ _ _ _ _ _ turns 0 [] T = _
    rw [ht]
    unfold mDcNX
    rw [e0]
    simp [di, dg, hb]
  simp [G_Term_filled, runB_eq, sh_Term_filled, startW, m_repl, m_names, e, h2, wipeW, e1]
end
end Dk07
end
section
set_option maxRecDepth 100000
set_option maxHeartbeats 4000000
namespace Dk07
open PySem PySem.Spec L2 RL OrdX
open LC
open LTm hiding G_Term___and__ G_Term___invert__ G_Term___or__ G_Term___rand__ G_Term___ror__ G_Term___rsub__ G_Term___sub__ G_Term_closed G_Term_of G_Term_opened G_Term_rim G__law_term G_joined G_need_size joined1 joined2 need_ok of_name of_term opG opR opr_ok sh_Term___and__ sh_Term___invert__ sh_Term___or__ sh_Term___rand__ sh_Term___ror__ sh_Term___rsub__ sh_Term___sub__ sh_Term_closed sh_Term_of sh_Term_opened sh_Term_rim sh__law_term sh_joined sh_need_size
open LTj
open PyProof.Rows hiding St
section
variable {S : Store} {f g : Form}
/-! ### drawn forms -/
/-- at most so deep, short names -/
structure Dr (d : Nat) (f : Form) : Prop where
  nm : ∀ x, Sub (.name x) f → nameL x = true ∧ x.length ≤ 6
  dep : dep f ≤ d
theorem Dr.term {d : Nat} (h : Dr d f) (hd : d ≤ 8) : G__law_term 10 [toW f] S = .ok (termW f) S :=
  law_term_ok f 10 (by have := h.dep; omega) (fun g m => fits_of (by have := sub_dep m; have := h.dep; omega)) fun x m => ⟨(h.nm x m).1, lim_of (by have := (h.nm x m).2; omega)⟩
theorem Dr.len {d : Nat} (h : Dr d f) (hd : d ≤ 7) : (LTm.txt f).length ≤ 2048 := by
  have h1 := txt_le f fun x m => (h.nm x m).2
  have h2 : 2 ^ LTm.dep f ≤ 2 ^ 7 := Nat.pow_le_pow_right (by decide) (by have := h.dep; omega)
  omega
theorem Dr.txt {d : Nat} (h : Dr d f) (hd : d ≤ 7) : (LTm.txt f).length ≤ lim := lim_of (by have := h.len hd; omega)
theorem Dr.ltext {d : Nat} (h : Dr d f) (hd : d ≤ 7) : G__law_text 24 [toW f] S = .ok (.str (tx (LTm.txt f))) S := law_text_ok f 24 (by have := h.dep; omega) (h.txt hd)
theorem Dr.text {d : Nat} (h : Dr d f) (hd : d ≤ 7) : G_Term_text [termW f] S = .ok (.str (tx (LTm.txt f))) S := text_ok (by have := h.dep; omega) (h.txt hd)
theorem Dr.out {d : Nat} (h : Dr d f) (hd : d ≤ 8) : outF f S = .ok (termW f) S := by
  obtain ⟨h1, h2⟩ := fits_of (f := f) (by have := h.dep; omega)
  unfold outF
  rw [if_neg (by omega), if_neg (by omega)]
theorem sub_name {τ : Str → Option Form} {x : List Nat} : ∀ {f : Form}, Sub (.name x) (sub τ f) → Sub (.name x) f ∨ ∃ y g, τ y = some g ∧ Sub (.name x) g
  | .name y, h => by
    unfold sub at h
    cases e : τ (tx y) with
    | none => rw [e] at h; exact .inl h
    | some g => rw [e] at h; exact .inr ⟨_, g, e, h⟩
  | .un u f, h => by
    cases h with
    | un h => exact (sub_name (f := f) h).imp .un id
  | .bin b f g, h => by
    cases h with
    | left h => exact (sub_name (f := f) h).imp .left id
    | right h => exact (sub_name (f := g) h).imp .right id
  | .all, h => .inl h
  | .none, h => .inl h
theorem dep_sub {τ : Str → Option Form} {k : Nat} (hk : ∀ y g, τ y = some g → dep g ≤ k + 1) : ∀ f : Form, dep (sub τ f) ≤ dep f + k
  | .name y => by
    unfold sub
    cases e : τ (tx y) with
    | none => simp [LTm.dep]
    | some g => have := hk _ g e; simp [LTm.dep]; omega
  | .un u f => by have := dep_sub hk f; simp [sub, LTm.dep]; omega
  | .bin b f g => by have := dep_sub hk f; have := dep_sub hk g; simp [sub, LTm.dep]; omega
  | .all => by simp [sub, LTm.dep]
  | .none => by simp [sub, LTm.dep]
theorem Dr.sub {τ : Str → Option Form} {d k : Nat} (h : Dr d f) (hk : ∀ y g, τ y = some g → Dr (k + 1) g) : Dr (d + k) (sub τ f) :=
  ⟨fun x m => (sub_name m).elim (h.nm x) fun ⟨y, g, e, m⟩ => (hk y g e).nm x m, Nat.le_trans (dep_sub (fun y g e => (hk y g e).dep) f) (by have := h.dep; omega)⟩
theorem nm_sub : ∀ {f : Form} {x : Str}, x ∈ NM f → ∃ y, Sub (.name y) f ∧ x = tx y
  | .name y, x, h => ⟨y, .self, by simpa [NM] using h⟩
  | .un u f, x, h => by
    obtain ⟨y, h1, h2⟩ := nm_sub (f := f) (by simpa [NM] using h)
    exact ⟨y, .un h1, h2⟩
  | .bin b f g, x, h => by
    simp [NM] at h
    rcases h with h | h
    · obtain ⟨y, h1, h2⟩ := nm_sub (f := f) h
      exact ⟨y, .left h1, h2⟩
    · obtain ⟨y, h1, h2⟩ := nm_sub (f := g) h
      exact ⟨y, .right h1, h2⟩
  | .all, x, h => by simp [NM] at h
  | .none, x, h => by simp [NM] at h
/-! ### statements -/
inductive Rl3 where
  | empty | within | equal
  deriving DecidableEq
noncomputable def Rl3.s : Rl3 → Str
  | .empty => "empty" | .within => "within" | .equal => "equal"
@[simp] theorem r_inj {a b : Rl3} : (a.s = b.s) ↔ a = b := by cases a <;> cases b <;> decide +kernel
theorem l_empty : (Str.ofString "empty") = Rl3.empty.s := rfl
theorem l_within : (Str.ofString "within") = Rl3.within.s := rfl
theorem l_equal : (Str.ofString "equal") = Rl3.equal.s := rfl
noncomputable def emptyL : List Nat := [32, 105, 115, 32, 101, 109, 112, 116, 121]
noncomputable def withinL : List Nat := [32, 119, 105, 116, 104, 105, 110, 32]
noncomputable def equalL : List Nat := [32, 61, 32]
theorem e_emp : Str.ofString " is empty" = tx emptyL := lit_eq (by decide +kernel)
theorem e_wit : Str.ofString " within " = tx withinL := lit_eq (by decide +kernel)
theorem e_eqv : Str.ofString " = " = tx equalL := lit_eq (by decide +kernel)
theorem empty_eq : c_EMPTY = .str (tx emptyL) := congrArg W.str e_emp
noncomputable def Rl3.mid : Rl3 → List Nat
  | .empty => emptyL | .within => withinL | .equal => equalL
/-- a statement with a second term, or without -/
noncomputable def stW (r : Rl3) (f : Form) (w : W) : W := .ins "Statement" ["own_relation", "own_one", "own_other"] [.str r.s, termW f, w]
theorem n1 : (Str.ofString "own_one" == Str.ofString "own_relation") = false := by decide +kernel
theorem n2 : (Str.ofString "own_other" == Str.ofString "own_relation") = false := by decide +kernel
theorem n3 : (Str.ofString "own_other" == Str.ofString "own_one") = false := by decide +kernel
section
variable {r : Rl3} {w : W}
@[simp] theorem fld_rel : gFld "Statement" "own_relation" (stW r f w) S = .ok (.str r.s) S := by simp [stW, List.lookup]
@[simp] theorem fld_one : gFld "Statement" "own_one" (stW r f w) S = .ok (termW f) S := by simp [stW, List.lookup, n1]
@[simp] theorem fld_other : gFld "Statement" "own_other" (stW r f w) S = .ok w S := by simp [stW, List.lookup, n2, n3]
theorem make_st : gMake "Statement" ["own_relation", "own_one", "own_other"] [.str r.s, termW f, w] S = .ok (stW r f w) S := by simp [stW]
theorem methK_st {m : Str} {g : Fn} {mr : SM (List W)} {e : Env'} (h : (["own_relation", "own_one", "own_other"] : List Str).contains m = false) : methK "Statement" m g mr e (stW r f w) S = (mr e S).bind fun us S2 => g (stW r f w :: us) S2 := by
  unfold stW
  rw [methK_ins, if_pos ⟨rfl, h⟩]
theorem mid_look : c_MIDDLES.lookup r.s = if r = .empty then none else some (tx r.mid) := by
  cases r
  · show c_MIDDLES.lookup Rl3.empty.s = none
    decide +kernel
  · show c_MIDDLES.lookup Rl3.within.s = some (tx withinL)
    decide +kernel
  · show c_MIDDLES.lookup Rl3.equal.s = some (tx equalL)
    decide +kernel
end
theorem methK_text {g : Fn} {mr : SM (List W)} {s : Env'} : methK "Term" "text" g mr s (termW f) S = (mr s S).bind fun us S2 => g (termW f :: us) S2 := methK_term (by decide +kernel)
theorem methK_depth {g : Fn} {mr : SM (List W)} {s : Env'} : methK "Term" "depth" g mr s (termW f) S = (mr s S).bind fun us S2 => g (termW f :: us) S2 := methK_term (by decide +kernel)
theorem methK_parts {g : Fn} {mr : SM (List W)} {s : Env'} : methK "Term" "parts" g mr s (termW f) S = (mr s S).bind fun us S2 => g (termW f :: us) S2 := methK_term (by decide +kernel)
theorem str_ok {d : Nat} (h : Dr d f) (hd : d ≤ 7) : gOwnS "Term" G_Term___str__ (termW f) S = .ok (.str (tx (LTm.txt f))) S := by
  have t := fun T => h.text (S := T) hd
  have hz := h.txt hd
  simp [gOwnS, G_Term___str__, runB_eq, sh_Term___str__, startW, methK_text, t, hz]
theorem text_e {d : Nat} (h : Dr d f) (hd : d ≤ 7) : G_Statement_text [stW .empty f .non] S = .ok (.str (tx (LTm.txt f ++ emptyL))) S := by
  have hlim : lim = 16777216 := rfl
  have t1 := fun T => str_ok (S := T) h hd
  have l1 := h.len hd
  have l4 : emptyL.length = 9 := rfl
  simp [G_Statement_text, runB_eq, sh_Statement_text, startW, l_empty, mFmtO, t1, empty_eq, l4, mJs]
  repeat (first | rw [if_pos (by omega)] | simp)
theorem text_2 {d : Nat} {r : Rl3} (hr : r ≠ .empty) (h : Dr d f) (h' : Dr d g) (hd : d ≤ 7) : G_Statement_text [stW r f (termW g)] S = .ok (.str (tx (LTm.txt f ++ r.mid ++ LTm.txt g))) S := by
  have hlim : lim = 16777216 := rfl
  have ml := mid_look (r := r)
  have t1 := fun T => str_ok (S := T) h hd
  have t2 := fun T => str_ok (S := T) h' hd
  have l1 := h.len hd
  have l2 := h'.len hd
  have l3 : r.mid.length ≤ 9 := by cases r <;> simp [Rl3.mid, emptyL, withinL, equalL]
  simp [G_Statement_text, runB_eq, sh_Statement_text, startW, l_empty, hr, mFmtO, t1, t2, mCDict, ml, mJs]
  repeat (first | rw [if_pos (by omega)] | simp [ml, hr, t2])
theorem law_text_2 {d : Nat} {r : Rl3} (hr : r ≠ .empty) (h : Dr d f) (h' : Dr d g) (hd : d ≤ 7) : G__law_saying_text [.tup [.str r.s, toW f, toW g]] S = .ok (.str (tx (LTm.txt f ++ r.mid ++ LTm.txt g))) S := by
  have hlim : lim = 16777216 := rfl
  have t1 := fun T => h.ltext (S := T) hd
  have t2 := fun T => h'.ltext (S := T) hd
  have l1 := h.len hd
  have l2 := h'.len hd
  cases r <;> simp [G__law_saying_text, runB_eq, sh__law_saying_text, startW, Rl3.mid, l_empty, l_within, l_equal, t1, t2, e_wit, e_eqv, withinL, equalL] at hr ⊢
  all_goals (repeat (first | rw [if_pos (by omega)] | simp [t2]))
theorem law_st_2 {d : Nat} {r : Rl3} (hr : r ≠ .empty) (h : Dr d f) (h' : Dr d g) (hd : d ≤ 7) : G__law_statement [.tup [.str r.s, toW f, toW g]] S = .ok (stW r f (termW g)) S := by
  have t1 := fun T => h.term (S := T) (by omega)
  have t2 := fun T => h'.term (S := T) (by omega)
  cases r <;> simp [-gMake_eq, G__law_statement, runB_eq, sh__law_statement, startW, l_empty, l_within, l_equal, t1, t2, G_Statement_within, sh_Statement_within, G_Statement_equal, sh_Statement_equal, of_term, make_st] at hr ⊢
end
end Dk07
end
section
set_option maxRecDepth 100000
set_option maxHeartbeats 4000000
namespace Dk07
open PySem PySem.Spec L2 RL OrdX
open LC
open LTm hiding G_Term___and__ G_Term___invert__ G_Term___or__ G_Term___rand__ G_Term___ror__ G_Term___rsub__ G_Term___sub__ G_Term_closed G_Term_of G_Term_opened G_Term_rim G__law_term G_joined G_need_size joined1 joined2 need_ok of_name of_term opG opR opr_ok sh_Term___and__ sh_Term___invert__ sh_Term___or__ sh_Term___rand__ sh_Term___ror__ sh_Term___rsub__ sh_Term___sub__ sh_Term_closed sh_Term_of sh_Term_opened sh_Term_rim sh__law_term sh_joined sh_need_size
open LTj
open PyProof.Rows hiding St
section
variable {S : Store} {f g : Form}
/-! ### ** of what was given -/
theorem kwsW_len : ∀ {ks : List Str} {zs : List W}, ks.length = zs.length → (kwsW ks zs).map (·.1) = ks.map Sum.inr ∧ (kwsW ks zs).map (·.2) = zs
  | [], [], _ => ⟨rfl, rfl⟩
  | k :: ks, z :: zs, h => by
    obtain ⟨a, b⟩ := kwsW_len (ks := ks) (zs := zs) (by simpa using h)
    unfold kwsW at a b ⊢
    rw [List.zip_cons_cons, List.map_cons]
    exact ⟨by rw [List.map_cons, a]; rfl, by rw [List.map_cons, b]⟩
theorem strsK_inr : ∀ ks : List Str, strsK (ks.map Sum.inr) = some ks
  | [] => rfl
  | k :: r => by simp [strsK, strsK_inr r]
/-- good keywords -/
structure Kws (ks : List Str) (zs : List W) : Prop where
  len : ks.length = zs.length
  nd : ks.Nodup
  ns : ks.contains "self" = false
  few : ks.length ≤ 1000
theorem dd_ok {ks : List Str} {zs : List W} (k : Kws ks zs) {mo : SM W} {s : Env'} {i : Nat} {T : Store} {G : Fn} (ho : mo s S = .ok (termW f) T) (hv : mVar i s T = .ok (dicT (kwsW ks zs)) T) :
    mMethDD "Term" "filled" "self" G mo i s S = G [termW f, dicT (kwsW ks zs)] T := by
  have hi : insAt T (termW f) = (some ("Term", ["node", "deep", "part_count"], [toW f, .int (dep f), .int (prt f)]) : Option (Str × List Str × List W)) := rfl
  have hc : (["node", "deep", "part_count"] : List Str).contains "filled" = false := by decide +kernel
  obtain ⟨e1, e2⟩ := kwsW_len k.len
  rw [mMethDD_eq, ho, ok_bind, hi]
  dsimp only
  rw [if_pos ⟨rfl, hc⟩, hv, ok_bind]
  unfold dicT
  dsimp only
  rw [e1, strsK_inr, e2]
  dsimp only
  rw [if_pos ⟨k.nd, k.ns, k.few, by rw [List.length_map]; exact k.len⟩, e1, e2]
variable {r : Rl3} {ks : List Str} {zs : List W}
theorem rep_exc {w : W} {T : Store} {c : Str} {ns : List Str} {ws : List W} (k : Kws ks zs) (h : G_Term_filled [termW f, dicT (kwsW ks zs)] S = .exc c ns ws T) : G_Statement_filled [stW r f w, dicT (kwsW ks zs)] S = .exc c ns ws T := by
  have d := dd_ok (S := S) (T := S) (f := f) (G := G_Term_filled) k (mo := mUn (gFld "Statement" "own_one") (mVar 0)) (s := [some (stW r f w), some (dicT (kwsW ks zs)), none]) (i := 1) (by simp) rfl
  rw [h] at d
  have m := fun (G : Fn) (mr : SM (List W)) (e : Env') => methK_st (S := S) (r := r) (f := f) (w := w) (m := "replaced") (g := G) (mr := mr) (e := e) (by decide +kernel)
  simp [-mMethDD_eq, G_Statement_filled, runB_eq, sh_Statement_filled, startW, m, G_Statement_replaced, sh_Statement_replaced, d]
theorem isNon_term {g : Form} : isNonW (termW g) = false := rfl
theorem rep_e {f' : Form} {T : Store} (k : Kws ks zs) (h : G_Term_filled [termW f, dicT (kwsW ks zs)] S = .ok (termW f') T) : G_Statement_filled [stW r f .non, dicT (kwsW ks zs)] S = .ok (stW r f' .non) T := by
  have d := dd_ok (S := S) (T := S) (f := f) (G := G_Term_filled) k (mo := mUn (gFld "Statement" "own_one") (mVar 0)) (s := [some (stW r f .non), some (dicT (kwsW ks zs)), none]) (i := 1) (by simp) rfl
  rw [h] at d
  have m := fun (G : Fn) (mr : SM (List W)) (e : Env') => methK_st (S := S) (r := r) (f := f) (w := .non) (m := "replaced") (g := G) (mr := mr) (e := e) (by decide +kernel)
  have i1 : isNonW .non = true := rfl
  simp [-mMethDD_eq, -gMake_eq, G_Statement_filled, runB_eq, sh_Statement_filled, startW, m, G_Statement_replaced, sh_Statement_replaced, d, i1, make_st]
theorem rep_2 {f' : Form} {T : Store} (k : Kws ks zs) (h : G_Term_filled [termW f, dicT (kwsW ks zs)] S = .ok (termW f') T) : G_Statement_filled [stW r f (termW g), dicT (kwsW ks zs)] S = (G_Term_filled [termW g, dicT (kwsW ks zs)] T).bind fun w T2 => .ok (stW r f' w) T2 := by
  have d := dd_ok (S := S) (T := S) (f := f) (G := G_Term_filled) k (mo := mUn (gFld "Statement" "own_one") (mVar 0)) (s := [some (stW r f (termW g)), some (dicT (kwsW ks zs)), none]) (i := 1) (by simp) rfl
  rw [h] at d
  have d2 := dd_ok (S := T) (T := T) (f := g) (G := G_Term_filled) k (mo := mUn (gFld "Statement" "own_other") (mVar 0)) (s := [some (stW r f (termW g)), some (dicT (kwsW ks zs)), some (termW f')]) (i := 1) (by simp) rfl
  have m := fun (G : Fn) (mr : SM (List W)) (e : Env') => methK_st (S := S) (r := r) (f := f) (w := termW g) (m := "replaced") (g := G) (mr := mr) (e := e) (by decide +kernel)
  simp [-mMethDD_eq, -gMake_eq, G_Statement_filled, runB_eq, sh_Statement_filled, startW, m, G_Statement_replaced, sh_Statement_replaced, d, isNon_term, d2]
  cases G_Term_filled [termW g, dicT (kwsW ks zs)] T with
  | ok w T2 => simp [-gMake_eq, make_st]
  | exc c ns ws T2 => rfl
  | bad => rfl
end
end Dk07
end
section
set_option maxRecDepth 100000
set_option maxHeartbeats 4000000
namespace Dk07
open PySem PySem.Spec L2 RL OrdX
open LC
open LTm hiding G_Term___and__ G_Term___invert__ G_Term___or__ G_Term___rand__ G_Term___ror__ G_Term___rsub__ G_Term___sub__ G_Term_closed G_Term_of G_Term_opened G_Term_rim G__law_term G_joined G_need_size joined1 joined2 need_ok of_name of_term opG opR opr_ok sh_Term___and__ sh_Term___invert__ sh_Term___or__ sh_Term___rand__ sh_Term___ror__ sh_Term___rsub__ sh_Term___sub__ sh_Term_closed sh_Term_of sh_Term_opened sh_Term_rim sh__law_term sh_joined sh_need_size
open LTj
open PyProof.Rows hiding St
section
variable {S : Store} {f g : Form}
/-! ### o.filled(k = v, ..) -/
theorem kw_st {r : Rl3} {w : W} {ks : List Str} {zs : List W} {G : Fn} {mo : SM W} {mk : SM (List W)} {s : Env'} (ho : mo s S = .ok (stW r f w) S) (hk : mk s S = .ok zs S) : mMethKw "Statement" "filled" G ks mo mk s S = G [stW r f w, dicT (kwsW ks zs)] S := by
  have hi : insAt S (stW r f w) = (some ("Statement", ["own_relation", "own_one", "own_other"], [.str r.s, termW f, w]) : Option (Str × List Str × List W)) := rfl
  have hc : (["own_relation", "own_one", "own_other"] : List Str).contains "filled" = false := by decide +kernel
  unfold mMethKw
  rw [ho, ok_bind, hi]
  dsimp only
  rw [if_pos ⟨rfl, hc⟩, hk, ok_bind]
theorem kw_term {ks : List Str} {zs : List W} {G : Fn} {mo : SM W} {mk : SM (List W)} {s : Env'} (ho : mo s S = .ok (termW f) S) (hk : mk s S = .ok zs S) : mMethKw "Term" "filled" G ks mo mk s S = G [termW f, dicT (kwsW ks zs)] S := by
  have hi : insAt S (termW f) = (some ("Term", ["node", "deep", "part_count"], [toW f, .int (dep f), .int (prt f)]) : Option (Str × List Str × List W)) := rfl
  have hc : (["node", "deep", "part_count"] : List Str).contains "filled" = false := by decide +kernel
  unfold mMethKw
  rw [ho, ok_bind, hi]
  dsimp only
  rw [if_pos ⟨rfl, hc⟩, hk, ok_bind]
noncomputable abbrev A : List Nat := [97, 120]
noncomputable abbrev B : List Nat := [98, 120]
theorem eA : Str.ofString "ax" = tx A := lit_eq (by decide +kernel)
theorem eB : Str.ofString "bx" = tx B := lit_eq (by decide +kernel)
theorem ofA : G_Term_of [.str "ax"] S = .ok (termW (.name A)) S := by
  rw [show (W.str "ax") = .str (tx A) from congrArg W.str eA]; exact of_name (by decide +kernel) (by decide)
theorem ofB : G_Term_of [.str "bx"] S = .ok (termW (.name B)) S := by
  rw [show (W.str "bx") = .str (tx B) from congrArg W.str eB]; exact of_name (by decide +kernel) (by decide)
/-! ### deep and wide ones -/
noncomputable def chainF : Nat → Form
  | 0 => .name [97]
  | n + 1 => .un .closed (chainF n)
noncomputable def wideF : Nat → Form
  | 0 => .name [97]
  | n + 1 => .bin .and (wideF n) (wideF n)
theorem chain_dep : ∀ n, dep (chainF n) = n + 1 ∧ prt (chainF n) = n + 1
  | 0 => ⟨rfl, rfl⟩
  | n + 1 => by have := chain_dep n; simp [chainF, dep, prt]; omega
theorem wide_dep : ∀ n, dep (wideF n) = n + 1 ∧ prt (wideF n) + 1 = 2 ^ (n + 1)
  | 0 => ⟨rfl, rfl⟩
  | n + 1 => by
    have := wide_dep n
    have h2 : 2 ^ (n + 1 + 1) = 2 * 2 ^ (n + 1) := by rw [Nat.pow_succ, Nat.mul_comm]
    simp [wideF, dep, prt]; omega
noncomputable abbrev deepF : Form := chainF 39
noncomputable abbrev aF : Form := .un .closed (.name A)
/-- what is told by a lambda -/
noncomputable def Tells (j : Nat) (ws : List W) (R : Store → Res W) : Prop := ∀ S, ∃ T, Keep S.length S T ∧ F_clo j ws S = R T
theorem k1 {ks : List Str} {zs : List W} (hl : ks.length = zs.length) (nd : ks.Nodup) (ns : ks.contains "self" = false) (h : ks.length ≤ 1000) : Kws ks zs := ⟨hl, nd, ns, h⟩
theorem kAB {v w : W} : Kws ["ax", "bx"] [v, w] := ⟨rfl, by decide +kernel, by decide +kernel, by decide⟩
theorem kBA {v w : W} : Kws ["bx", "ax"] [v, w] := ⟨rfl, by decide +kernel, by decide +kernel, by decide⟩
theorem kA {v : W} : Kws ["ax"] [v] := ⟨rfl, by decide +kernel, by decide +kernel, by decide⟩
theorem vA1 {v w : W} : valW (kwsW ["ax", "bx"] [v, w]) (.inr (tx A)) = some v := by kernel_rfl
theorem vA2 {v : W} : valW (kwsW ["ax"] [v]) (.inr (tx A)) = some v := by kernel_rfl
theorem vB2 {v : W} : valW (kwsW ["ax"] [v]) (.inr (tx B)) = none := by kernel_rfl
theorem vA3 {v w : W} : valW (kwsW ["bx", "ax"] [v, w]) (.inr (tx A)) = some w := by kernel_rfl
theorem vB3 {v w : W} : valW (kwsW ["bx", "ax"] [v, w]) (.inr (tx B)) = some v := by kernel_rfl
/-- one name alone -/
theorem fill_one {f h : Form} {kws : KW} (hd : dep f ≤ 5) (hn : ∀ x ∈ NM f, x = tx A) (hv : valW kws (.inr (tx A)) = some (termW h)) : ∃ T, Keep S.length S T ∧ G_Term_filled [termW f, dicT kws] S = outF (sub (fun x => if x = tx A then some h else none) f) T := by
  obtain ⟨T, k, e⟩ := filled_res (S := S) (f := f) (kws := kws) (G := fun _ => h) hd fun x m w hw S => by
    rw [hn x m, hv] at hw
    cases hw
    exact of_term h
  refine ⟨T, k, ?_⟩
  rw [e]
  congr 1
  refine sub_congr fun x m => ?_
  rw [hn x m]
  simp [tauK, giv, hv]
theorem fill_none {f : Form} {kws : KW} (hd : dep f ≤ 5) (hn : ∀ x ∈ NM f, x = tx B) (hv : valW kws (.inr (tx B)) = none) : ∃ T, Keep S.length S T ∧ G_Term_filled [termW f, dicT kws] S = outF f T := by
  obtain ⟨T, k, e⟩ := filled_res (S := S) (f := f) (kws := kws) (G := fun _ => f) hd fun x m w hw S => by
    rw [hn x m, hv] at hw
    cases hw
  refine ⟨T, k, ?_⟩
  rw [e]
  congr 1
  have : sub (tauK kws fun _ => f) f = sub (fun _ => none) f := sub_congr fun x m => by
    rw [hn x m]
    simp [tauK, giv, hv]
  rw [this]
  clear this e k hv hn hd
  induction f with
  | name x => rfl
  | un u f ih => simp [sub, ih]
  | bin b f g ih ih' => simp [sub, ih, ih']
  | all => rfl
  | none => rfl
theorem nA : ∀ x ∈ NM aF, x = tx A := fun x m => by simpa [NM] using m
theorem nB : ∀ x ∈ NM (.name B), x = tx B := fun x m => by simpa [NM] using m
theorem deep_out : outF (sub (fun x => if x = tx A then some deepF else none) aF) S = exD S := by
  have h : dep deepF = 40 := (chain_dep 39).1
  have : sub (fun x => if x = tx A then some deepF else none) aF = .un .closed deepF := by simp [sub]
  rw [this]
  unfold outF
  rw [if_pos (by simp [dep]; omega)]
theorem b_out : outF (.name B) S = .ok (termW (.name B)) S := by rfl
theorem within_ok {f : Form} : G_Statement_within [termW f, .str "bx"] S = .ok (stW .within f (termW (.name B))) S := by
  have h := fun T => ofB (S := T)
  simp [-gMake_eq, G_Statement_within, runB_eq, sh_Statement_within, startW, of_term, h, l_within, make_st]
theorem withinAB : G_Statement_within [.str "ax", .str "bx"] S = .ok (stW .within (.name A) (termW (.name B))) S := by
  have h := fun T => ofB (S := T)
  have h' := fun T => ofA (S := T)
  simp [-gMake_eq, G_Statement_within, runB_eq, sh_Statement_within, startW, h, h', l_within, make_st]
theorem withinBA : G_Statement_within [.str "bx", .str "ax"] S = .ok (stW .within (.name B) (termW (.name A))) S := by
  have h := fun T => ofB (S := T)
  have h' := fun T => ofA (S := T)
  simp [-gMake_eq, G_Statement_within, runB_eq, sh_Statement_within, startW, h, h', l_within, make_st]
theorem equalBX {f : Form} : G_Statement_equal [.str "bx", termW f] S = .ok (stW .equal (.name B) (termW f)) S := by
  have h := fun T => ofB (S := T)
  simp [-gMake_eq, G_Statement_equal, runB_eq, sh_Statement_equal, startW, of_term, h, l_equal, make_st]
theorem emptyB : G_Statement_empty [.str "bx"] S = .ok (stW .empty (.name B) .non) S := by
  have h := fun T => ofB (S := T)
  simp [-gMake_eq, G_Statement_empty, runB_eq, sh_Statement_empty, startW, h, l_empty, make_st]
theorem emptyT {f : Form} : G_Statement_empty [termW f] S = .ok (stW .empty f .non) S := by
  simp [-gMake_eq, G_Statement_empty, runB_eq, sh_Statement_empty, startW, of_term, l_empty, make_st]
theorem lam0 : Tells 0 [termW aF, termW deepF] exD := fun S => by
  obtain ⟨T, k, e⟩ := fill_one (S := S) (f := aF) (h := deepF) (kws := kwsW ["ax", "bx"] [termW deepF, .non]) (by decide) nA vA1
  rw [deep_out] at e
  refine ⟨T, k, ?_⟩
  show G_lam0 [_, _] S = _
  unfold G_lam0 runL sh_lam0
  rw [kw_st (r := .within) (f := aF) (w := termW (.name B)) (zs := [termW deepF, .non]) (by simp [startL, within_ok]) rfl]
  exact rep_exc kAB e
theorem lam1 : Tells 1 [termW aF, termW (wideF 9)] exM := fun S => by
  have hw := wide_dep 9
  have own := fun base => own_ok (S := S) (b := .or) (f := aF) (g := aF) (base := base) ⟨by decide, by decide⟩
  simp only [opG, opR] at own
  obtain ⟨T1, k1, e1⟩ := fill_none (S := S) (f := .name B) (kws := kwsW ["ax"] [termW (wideF 9)]) (by decide) nB vB2
  rw [b_out] at e1
  obtain ⟨T, k, e⟩ := fill_one (S := T1) (f := .bin .or aF aF) (h := wideF 9) (kws := kwsW ["ax"] [termW (wideF 9)]) (by decide) (fun x m => by simpa [NM] using m) vA2
  have so : sub (fun x => if x = tx A then some (wideF 9) else none) (.bin .or aF aF) = .bin .or (.un .closed (wideF 9)) (.un .closed (wideF 9)) := by simp [sub]
  have o : outF (sub (fun x => if x = tx A then some (wideF 9) else none) (.bin .or aF aF)) T = exM T := by
    rw [so]
    unfold outF
    rw [if_neg (by simp [dep]; omega), if_pos (by simp [prt]; omega)]
  rw [o] at e
  refine ⟨T, k1.trans (k.le k1.len), ?_⟩
  show G_lam1 [_, _] S = _
  unfold G_lam1 runL sh_lam1
  rw [kw_st (r := .equal) (f := .name B) (w := termW (.bin .or aF aF)) (zs := [termW (wideF 9)]) (by simp [startL, own, equalBX]) rfl]
  have r := rep_2 (S := S) (g := .bin .or aF aF) (r := .equal) kA e1
  rw [e] at r
  exact r
theorem lam2 {w : W} (hb : ∀ S, G_Term_of [w] S = exT w S) : Tells 2 [w] (exT w) := fun S => by
  obtain ⟨T, k, e⟩ := filled_bad (S := S) (x := A) (kws := kwsW ["bx", "ax"] [.non, w]) vA3 hb
  refine ⟨T, k, ?_⟩
  show G_lam2 [_] S = _
  unfold G_lam2 runL sh_lam2
  rw [kw_st (r := .within) (f := .name A) (w := termW (.name B)) (zs := [.non, w]) (by simp [startL, withinAB]) rfl]
  exact rep_exc kBA e
theorem lam3 {w : W} (hb : ∀ S, G_Term_of [w] S = exT w S) : Tells 3 [w] (exT w) := fun S => by
  obtain ⟨T, k, e⟩ := filled_bad (S := S) (x := B) (kws := kwsW ["bx", "ax"] [w, .non]) vB3 hb
  refine ⟨T, k, ?_⟩
  show G_lam3 [_] S = _
  unfold G_lam3 runL sh_lam3
  rw [kw_st (r := .within) (f := .name B) (w := termW (.name A)) (zs := [w, .non]) (by simp [startL, withinBA]) rfl]
  exact rep_exc kBA e
theorem lam4 {w : W} : Tells 4 [w] (fun T => .ok (.str "bx is empty") T) := fun S => by
  obtain ⟨T, k, e⟩ := fill_none (S := S) (f := .name B) (kws := kwsW ["ax"] [w]) (by decide) nB vB2
  rw [b_out] at e
  refine ⟨T, k, ?_⟩
  have r := rep_e (r := .empty) kA e
  have t := text_e (S := T) (f := .name B) (d := 1) ⟨fun x m => by cases m; decide +kernel, by decide⟩ (by decide)
  have m := methK_st (S := T) (r := .empty) (f := .name B) (w := .non) (m := "text") (g := G_Statement_text) (mr := mNil) (e := startL L_4 [w]) (by decide +kernel)
  show G_lam4 [_] S = _
  unfold G_lam4 runL sh_lam4
  rw [mMeth_eq, kw_st (r := .empty) (f := .name B) (w := .non) (zs := [w]) (by simp [startL, emptyB]) rfl, r, ok_bind, m, mNil_eq, ok_bind, t]
  exact congrArg (fun x => Res.ok (W.str x) T) (lit_eq (by decide +kernel)).symm
theorem lam5 : Tells 5 [termW aF, termW deepF] exD := fun S => by
  obtain ⟨T, k, e⟩ := fill_one (S := S) (f := aF) (h := deepF) (kws := kwsW ["ax"] [termW deepF]) (by decide) nA vA2
  rw [deep_out] at e
  refine ⟨T, k, ?_⟩
  show G_lam5 [_, _] S = _
  unfold G_lam5 runL sh_lam5
  rw [kw_st (r := .empty) (f := aF) (w := .non) (zs := [termW deepF]) (by simp [startL, emptyT]) rfl]
  exact rep_exc kA e
end
end Dk07
end
section
set_option maxRecDepth 100000
set_option maxHeartbeats 4000000
namespace Dk07
open PySem PySem.Spec L2 RL OrdX
open LC
open LTm hiding G_Term___and__ G_Term___invert__ G_Term___or__ G_Term___rand__ G_Term___ror__ G_Term___rsub__ G_Term___sub__ G_Term_closed G_Term_of G_Term_opened G_Term_rim G__law_term G_joined G_need_size joined1 joined2 need_ok of_name of_term opG opR opr_ok sh_Term___and__ sh_Term___invert__ sh_Term___or__ sh_Term___rand__ sh_Term___ror__ sh_Term___rsub__ sh_Term___sub__ sh_Term_closed sh_Term_of sh_Term_opened sh_Term_rim sh__law_term sh_joined sh_need_size
open LTj
open PyProof.Rows hiding St
structure Stt (b : Bag) (T : Store) : Prop where
  t0 : T[0]? = some (.tab "_law_statements_filled_so")
  bag : T[1]? = some b.ob
  ok : b.Ok
  no : noCloS T = true
theorem no_ints : ∀ ns : List Int, noClos (ns.map .int) = true
  | [] => rfl
  | n :: r => by simp [noClos, noClo, no_ints r]
theorem bag_no (b : Bag) : noCloO b.ob = true := by simp [Bag.ob, noCloO, noClos, noClo, no_ints]
theorem Stt.draw {b b' : Bag} {T : Store} (h : Stt b T) (hb : b'.Ok) : Stt b' (T.set 1 b'.ob) :=
  ⟨by rw [List.getElem?_set_ne (by decide)]; exact h.t0, List.getElem?_set_self (get_len h.bag), hb, (Keep.set (L := 0) (Nat.zero_le _) (bag_no b')).no h.no⟩
theorem Stt.keep {b : Bag} {T T2 : Store} (h : Stt b T) (k : Keep T.length T T2) : Stt b T2 :=
  ⟨by rw [k.at_ _ (get_len h.t0)]; exact h.t0, by rw [k.at_ _ (get_len h.bag)]; exact h.bag, h.ok, k.no h.no⟩
section
variable {S : Store} {f g : Form}
/-! ### what is wrong -/
structure Bad (w : W) : Prop where
  no : noClo w = true
  pl : plainW 8 w = true
  of : ∀ S, G_Term_of [w] S = exT w S
theorem bad_mk {w : W} (h0 : noClo w = true) (h1 : plainW 8 w = true) (h2 : ∀ S, gIsi (ktC "Term") [w, .gl "Term"] S = .ok (.bl false) S) (h3 : ∀ S, G_is_name [w] S = .ok (.bl false) S) : Bad w := ⟨h0, h1, fun S => by
  simp [G_Term_of, runB_eq, sh_Term_of, startW, h2, h3, truW, mRaise, makeT]⟩
noncomputable def badsW : List W := [.non, .int 3, .str "A", .bl true, .str "rim", .tup [.str "a"]]
theorem bad_str {x : String} {a : List Nat} (e : x.toList.map Char.toNat = a) (h : nameL a = false) (hl : a.length ≤ lim) : Bad (.str (Str.ofString x)) := bad_mk rfl rfl (fun S => isi_str' _) fun S => by
  rw [lit_eq e, is_name_tx hl, h]
theorem bads : ∀ w ∈ badsW, Bad w := by
  intro w hw
  simp [badsW] at hw
  rcases hw with rfl | rfl | rfl | rfl | rfl | rfl
  · exact bad_mk rfl rfl (fun S => rfl) fun S => is_name_no (t := "NoneType") rfl rfl
  · exact bad_mk rfl rfl (fun S => rfl) fun S => is_name_no (t := "int") rfl rfl
  · exact bad_str (a := [65]) (by decide +kernel) (by decide +kernel) (by decide)
  · exact bad_mk rfl rfl (fun S => rfl) fun S => is_name_no (t := "bool") rfl rfl
  · exact bad_str (a := [114, 105, 109]) (by decide +kernel) (by decide +kernel) (by decide)
  · exact bad_mk rfl rfl (fun S => rfl) fun S => is_name_no (t := "tuple") rfl rfl
/-! ### asked, why not -/
theorem codeT {w : W} : gXFld cs_code "code" (.exn "InvalidTerm" ["value", "code"] [w, .str "InvalidTerm"]) S = .ok (.str "InvalidTerm") S := by kernel_rfl
theorem extraT {w : W} : G__law_extra [.exn "InvalidTerm" ["value", "code"] [w, .str "InvalidTerm"]] S = .ok w S := by kernel_rfl
theorem kxT : List.lookup (Str.ofString "InvalidTerm") kx_tab = some true := by decide +kernel
theorem codeD : gXFld cs_code "code" (.exn "TooDeep" ["limit", "code"] [.int 40, .str "TooDeep"]) S = .ok (.str "TooDeep") S := by kernel_rfl
theorem extraD : G__law_extra [.exn "TooDeep" ["limit", "code"] [.int 40, .str "TooDeep"]] S = .ok (.int 40) S := by kernel_rfl
theorem kxD : List.lookup (Str.ofString "TooDeep") kx_tab = some true := by decide +kernel
theorem codeM : gXFld cs_code "code" (.exn "TooMany" ["limit", "code"] [.int 2000, .str "TooMany"]) S = .ok (.str "TooMany") S := by kernel_rfl
theorem extraM : G__law_extra [.exn "TooMany" ["limit", "code"] [.int 2000, .str "TooMany"]] S = .ok (.int 2000) S := by kernel_rfl
theorem kxM : List.lookup (Str.ofString "TooMany") kx_tab = some true := by decide +kernel
theorem why_ok {j : Nat} {ws : List W} {v : W} {T : Store} (n1 : noClos ws = true) (n2 : noCloS S = true) (h : F_clo j ws S = .ok v T) : G__law_why [.clo j ws] S = .ok (.tup [.str "value", v]) T := by
  simp [G__law_why, runB_eq, startW, sh__law_why, mTryT, mAct, n1, n2, h]
theorem why_bad {j : Nat} {ws : List W} {w : W} {T : Store} (n1 : noClos ws = true) (n2 : noCloS S = true) (h : F_clo j ws S = exT w T) : G__law_why [.clo j ws] S = .ok (.tup [.str "InvalidTerm", w]) T := by
  simp [G__law_why, runB_eq, startW, sh__law_why, mTryT, mAct, n1, n2, h, kxT, codeT, extraT]
theorem why_deep {j : Nat} {ws : List W} {T : Store} (n1 : noClos ws = true) (n2 : noCloS S = true) (h : F_clo j ws S = exD T) : G__law_why [.clo j ws] S = .ok (.tup [.str "TooDeep", .int 40]) T := by
  simp [G__law_why, runB_eq, startW, sh__law_why, mTryT, mAct, n1, n2, h, kxD, codeD, extraD]
theorem why_many {j : Nat} {ws : List W} {T : Store} (n1 : noClos ws = true) (n2 : noCloS S = true) (h : F_clo j ws S = exM T) : G__law_why [.clo j ws] S = .ok (.tup [.str "TooMany", .int 2000]) T := by
  simp [G__law_why, runB_eq, startW, sh__law_why, mTryT, mAct, n1, n2, h, kxM, codeM, extraM]
theorem toW_no : ∀ f : Form, noClo (toW f) = true := by
  intro f
  induction f <;> simp_all [toW, noClo, noClos]
theorem term_no (f : Form) : noClo (termW f) = true := by
  have := toW_no f
  simp [termW, noClo, noClos, this]
theorem z (k : Nat) (hk : k ≤ 9) : k < lim := Nat.lt_of_le_of_lt hk (by decide)
noncomputable def cloS (w : W) (a d e : W) : List W := [.clo 0 [a, d], .clo 1 [a, e], .clo 2 [w], .clo 3 [w], .clo 4 [w], .clo 5 [a, d]]
noncomputable def dueSW (w : W) : List W := [.tup [.str "TooDeep", .int 40], .tup [.str "TooMany", .int 2000], .tup [.str "InvalidTerm", w], .tup [.str "InvalidTerm", w], .tup [.str "value", .str "bx is empty"], .tup [.str "TooDeep", .int 40]]
theorem whysS {w : W} (hb : Bad w) (n : noCloS S = true) : ∃ T, Keep S.length S T ∧ G__law_whys [.lst (cloS w (termW aF) (termW deepF) (termW (wideF 9)))] S = .ok (.lst (dueSW w)) T := by
  have n1 : ∀ a b : Form, noClos [termW a, termW b] = true := fun a b => by simp [noClos, term_no]
  have n2 : noClos [w] = true := by simp [noClos, hb.no]
  obtain ⟨T0, k0, e0⟩ := lam0 S
  obtain ⟨T1, k1, e1⟩ := lam1 T0
  obtain ⟨T2, k2, e2⟩ := lam2 hb.of T1
  obtain ⟨T3, k3, e3⟩ := lam3 hb.of T2
  obtain ⟨T4, k4, e4⟩ := lam4 (w := w) T3
  obtain ⟨T5, k5, e5⟩ := lam5 T4
  have m0 := k0.no n
  have m1 := k1.no m0
  have m2 := k2.no m1
  have m3 := k3.no m2
  have m4 := k4.no m3
  have w0 := why_deep (n1 _ _) n e0
  have w1 := why_many (n1 _ _) m0 e1
  have w2 := why_bad n2 m1 e2
  have w3 := why_bad n2 m2 e3
  have w4 := why_ok n2 m3 e4
  have w5 := why_deep (n1 _ _) m4 e5
  refine ⟨T5, ((((k0.trans (k1.le k0.len)).trans (k2.le (Nat.le_trans k0.len k1.len))).trans (k3.le (Nat.le_trans k0.len (Nat.le_trans k1.len k2.len)))).trans (k4.le (Nat.le_trans k0.len (Nat.le_trans k1.len (Nat.le_trans k2.len k3.len))))).trans (k5.le (Nat.le_trans k0.len (Nat.le_trans k1.len (Nat.le_trans k2.len (Nat.le_trans k3.len k4.len))))), ?_⟩
  generalize termW aF = ta at w0 w1 w5 ⊢
  generalize termW deepF = td at w0 w5 ⊢
  generalize termW (wideF 9) = tw at w1 ⊢
  simp [G__law_whys, runB_eq, startW, sh__law_whys, wipeW, cloS, dueSW, w0, w1, w2, w3, w4, w5, z 0, z 1, z 2, z 3, z 4, z 5]
theorem sameS {w : W} (h : plainW 8 w = true) : G__law_same 10 [.lst (dueSW w), .lst (dueSW w)] S = .ok (.bl true) S :=
  same_self 10 _ (by
    have p : plainW 9 (.tup [.str "InvalidTerm", w]) = true := by
      show (decide ((2 : Nat) ≤ lim) && (true && (plainW 8 w && true))) = true
      rw [h]; decide
    show (decide ((6 : Nat) ≤ lim) && (plainW 9 (.tup [.str "TooDeep", .int 40]) && (plainW 9 (.tup [.str "TooMany", .int 2000]) && (plainW 9 _ && (plainW 9 _ && (plainW 9 (.tup [.str "value", .str "bx is empty"]) && (plainW 9 (.tup [.str "TooDeep", .int 40]) && true))))))) = true
    rw [p]; decide +kernel) S
noncomputable def capsS : List (Nat × List Nat) := [(0, [7, 5]), (1, [7, 6]), (2, [2]), (3, [2]), (4, [2]), (5, [7, 5])]
noncomputable def startM : SM W := (mAp gTup (mCons (mAp G_Term_of (mCons (mC (.str "a")) mNil)) (mCons (mAp G_Term_of (mCons (mC (.str "a")) mNil)) (mCons (mMeth "Term" "closed" G_Term_closed (mAp G_Term_of (mCons (mC (.str "ax")) mNil)) mNil) mNil))))
noncomputable def loop1M : SS := (mFor (mRange1 (mCons (mC (.int 39)) mNil)) (gNm 1) (mAsg (mMeth "Term" "closed" G_Term_closed (mVar 5) mNil) (gNm 5)))
noncomputable def loop2M : SS := (mFor (mRange1 (mCons (mC (.int 9)) mNil)) (gNm 1) (mAsg (mBin (gOwnA "Term" (fun _ _ _ => .bad) G_Term___and__ G_Term___rand__) (mVar 6) (mVar 6)) (gNm 6)))
noncomputable def badM : SM (List W) := (mCons (mC .non) (mCons (mC (.int 3)) (mCons (mC (.str "A")) (mCons (mC (.bl true)) (mCons (mC (.str "rim")) (mCons (mAp gTup (mCons (mC (.str "a")) mNil)) mNil))))))
noncomputable def asksM : SM (List W) := (mCons (mLam 0 "_law_statements_filled_so" 0) (mCons (mLam 0 "_law_statements_filled_so" 1) (mCons (mLam 0 "_law_statements_filled_so" 2) (mCons (mLam 0 "_law_statements_filled_so" 3) (mCons (mLam 0 "_law_statements_filled_so" 4) (mCons (mLam 0 "_law_statements_filled_so" 5) mNil))))))
noncomputable def dueSM : SM (List W) := (mCons (mAp gTup (mCons (mC (.str "TooDeep")) (mCons (mC (.int 40)) mNil))) (mCons (mAp gTup (mCons (mC (.str "TooMany")) (mCons (mC (.int 2000)) mNil))) (mCons (mAp gTup (mCons (mC (.str "InvalidTerm")) (mCons (mVar 2) mNil))) (mCons (mAp gTup (mCons (mC (.str "InvalidTerm")) (mCons (mVar 2) mNil))) (mCons (mAp gTup (mCons (mC (.str "value")) (mCons (mC (.str "bx is empty")) mNil))) (mCons (mAp gTup (mCons (mC (.str "TooDeep")) (mCons (mC (.int 40)) mNil))) mNil))))))
noncomputable def testSM : SM W := (mAp (G__law_same 10) (mCons (mCallC [(0, [7, 5]), (1, [7, 6]), (2, [2]), (3, [2]), (4, [2]), (5, [7, 5])] G__law_whys (mCons (mVar 3) mNil)) (mCons (mVar 4) mNil)))
noncomputable def so2 : SS := (mSeq (mAsg startM (gTp 3 (gCons (gNm 5) (gCons (gNm 6) (gCons (gNm 7) gNil)))))
  (mSeq loop1M
  (mSeq loop2M
  (mSeq (mAsg (mAp G__law_one (mCons (mVar 0) (mCons (mAp gLst badM) mNil))) (gNm 2))
  (mSeq (mAsg (mAp gLst asksM) (gNm 3))
  (mSeq (mAsg (mAp gLst dueSM) (gNm 4))
  (mRet testSM)))))))
theorem so2_eq : sh__law_statements_filled_so = so2 := rfl
theorem testS_ok {o0 o1 : Option W} {w : W} (hb : Bad w) (n : noCloS S = true) : ∃ T, Keep S.length S T ∧ testSM [o0, o1, some w, some (.lst [.lam 0, .lam 1, .lam 2, .lam 3, .lam 4, .lam 5]), some (.lst (dueSW w)), some (termW deepF), some (termW (wideF 9)), some (termW aF)] S = .ok (.bl true) T := by
  obtain ⟨T, k, e⟩ := whysS hb n
  refine ⟨T, k, ?_⟩
  have hsm := sameS (S := T) hb.pl
  have hno : noClos (dueSW w) = true := by
    have h : noClo (.tup [.str "InvalidTerm", w]) = true := by
      show (true && (noClo w && true)) = true
      rw [hb.no]; rfl
    show (noClo (.tup [.str "TooDeep", .int 40]) && (noClo (.tup [.str "TooMany", .int 2000]) && (noClo _ && (noClo _ && (noClo (.tup [.str "value", .str "bx is empty"]) && (noClo (.tup [.str "TooDeep", .int 40]) && true)))))) = true
    rw [h]; rfl
  generalize termW aF = ta at e ⊢
  generalize termW deepF = td at e ⊢
  generalize termW (wideF 9) = tw at e ⊢
  generalize hD : dueSW w = D at e hsm hno ⊢
  have hc : mCallC capsS G__law_whys (mCons (mVar 3) mNil) [o0, o1, some w, some (.lst [.lam 0, .lam 1, .lam 2, .lam 3, .lam 4, .lam 5]), some (.lst D), some td, some tw, some ta] S = .ok (.lst D) T := by
    have hcl : closeAs capsS [o0, o1, some w, some (.lst [.lam 0, .lam 1, .lam 2, .lam 3, .lam 4, .lam 5]), some (.lst D), some td, some tw, some ta] [.lst [.lam 0, .lam 1, .lam 2, .lam 3, .lam 4, .lam 5]] = some [.lst (cloS w ta td tw)] := rfl
    unfold mCallC
    rw [mCons_eq, mVar_s, mVar_s, mVar_s, mVar_0, ok_bind, mNil_eq, ok_bind, ok_bind, hcl]
    dsimp only
    rw [e]
    exact if_pos ⟨hno, k.no n⟩
  show (mAp (G__law_same 10) (mCons (mCallC capsS G__law_whys (mCons (mVar 3) mNil)) (mCons (mVar 4) mNil))) _ _ = _
  rw [mAp_eq, mCons_eq, hc]
  simp -implicitDefEqProofs only [mCons_eq, mNil_eq, mVar_s, mVar_0, ok_bind, hsm]
theorem asksS (h : S[0]? = some (.tab "_law_statements_filled_so")) {e : Env'} : asksM e S = .ok [.lam 0, .lam 1, .lam 2, .lam 3, .lam 4, .lam 5] S := by
  have lam : ∀ j e, mLam 0 "_law_statements_filled_so" j e S = .ok (.lam j) S := fun j e => by simp [mLam, h]
  simp only [asksM, mCons_eq, mNil_eq, lam, ok_bind]
theorem badS {e : Env'} : badM e S = .ok badsW S := rfl
theorem dueS {o0 o1 o3 o4 o5 o6 o7 : Option W} {w : W} : dueSM [o0, o1, some w, o3, o4, o5, o6, o7] S = .ok (dueSW w) S := rfl
theorem m_closed {g : Fn} {mr : SM (List W)} {s : Env'} : methK "Term" "closed" g mr s (termW f) S = (mr s S).bind fun us S2 => g (termW f :: us) S2 := methK_term (by decide +kernel)
theorem start_ok {e : Env'} : startM e S = .ok (.tup [termW (chainF 0), termW (wideF 0), termW aF]) S := by
  have h1 : ∀ T, G_Term_of [.str "a"] T = .ok (termW (.name [97])) T := fun T => by
    rw [show (W.str "a") = .str (tx [97]) from congrArg W.str (lit_eq (by decide +kernel))]; exact of_name (by decide +kernel) (by decide)
  have h2 := fun T => ofA (S := T)
  have h3 := fun T => closed_ok (S := T) (f := .name A) ⟨by decide, by decide⟩
  have l3 : (3 : Nat) ≤ lim := by decide
  unfold startM
  simp only [mAp_eq, mCons_eq, mNil_eq, mC_eq, ok_bind, h1, mMeth_eq, h2, m_closed, h3, gTup_eq, List.length_cons, List.length_nil, Nat.zero_add, Nat.reduceAdd, l3, if_true]
  rfl
noncomputable def step1 : SS := (mAsg (mMeth "Term" "closed" G_Term_closed (mVar 5) mNil) (gNm 5))
theorem loop1 {o0 o2 o3 o4 o6 o7 : Option W} : ∀ (ws : List W) (n : Nat) (o1 : Option W), n + ws.length ≤ 39 →
    ∃ o1', mForL (gNm 1) step1 ws [o0, o1, o2, o3, o4, some (termW (chainF n)), o6, o7] S = .ok (.nx, [o0, o1', o2, o3, o4, some (termW (chainF (n + ws.length))), o6, o7]) S
  | [], n, o1, _ => ⟨o1, rfl⟩
  | w :: r, n, o1, hn => by
    rw [List.length_cons] at hn
    obtain ⟨o1', ih⟩ := loop1 (o0 := o0) (o2 := o2) (o3 := o3) (o4 := o4) (o6 := o6) (o7 := o7) r (n + 1) (some w) (by omega)
    refine ⟨o1', ?_⟩
    have cd := chain_dep n
    have hc := closed_ok (S := S) (f := chainF n) ⟨by simp [dep]; omega, by simp [prt]; omega⟩
    have st : step1 [o0, some w, o2, o3, o4, some (termW (chainF n)), o6, o7] S = .ok (.nx, [o0, some w, o2, o3, o4, some (termW (chainF (n + 1))), o6, o7]) S := by
      unfold step1
      simp only [mAsg_eq, mMeth_eq, mVar_s, mVar_0, ok_bind, m_closed, mNil_eq, hc, gNm_eq, List.set_cons_succ, List.set_cons_zero]
      rfl
    rw [List.length_cons, show n + (r.length + 1) = n + 1 + r.length from by omega]
    simp only [mForL, gNm_eq, ok_bind, List.set_cons_succ, List.set_cons_zero, st]
    exact ih
noncomputable def step2 : SS := (mAsg (mBin (gOwnA "Term" (fun _ _ _ => .bad) G_Term___and__ G_Term___rand__) (mVar 6) (mVar 6)) (gNm 6))
theorem loop2 {o0 o2 o3 o4 o5 o7 : Option W} : ∀ (ws : List W) (n : Nat) (o1 : Option W), n + ws.length ≤ 9 →
    ∃ o1', mForL (gNm 1) step2 ws [o0, o1, o2, o3, o4, o5, some (termW (wideF n)), o7] S = .ok (.nx, [o0, o1', o2, o3, o4, o5, some (termW (wideF (n + ws.length))), o7]) S
  | [], n, o1, _ => ⟨o1, rfl⟩
  | w :: r, n, o1, hn => by
    rw [List.length_cons] at hn
    obtain ⟨o1', ih⟩ := loop2 (o0 := o0) (o2 := o2) (o3 := o3) (o4 := o4) (o5 := o5) (o7 := o7) r (n + 1) (some w) (by omega)
    refine ⟨o1', ?_⟩
    have wd := wide_dep n
    have hp : 2 ^ (n + 1) ≤ 2 ^ 9 := Nat.pow_le_pow_right (by decide) (by omega)
    have hc := fun base => own_ok (S := S) (b := .and) (f := wideF n) (g := wideF n) (base := base) ⟨by simp [dep]; omega, by simp [prt]; omega⟩
    simp only [opG, opR] at hc
    have st : step2 [o0, some w, o2, o3, o4, o5, some (termW (wideF n)), o7] S = .ok (.nx, [o0, some w, o2, o3, o4, o5, some (termW (wideF (n + 1))), o7]) S := by
      unfold step2
      simp only [mAsg_eq, mBin_eq, mVar_s, mVar_0, ok_bind, hc, gNm_eq, List.set_cons_succ, List.set_cons_zero]
      rfl
    rw [List.length_cons, show n + (r.length + 1) = n + 1 + r.length from by omega]
    simp only [mForL, gNm_eq, ok_bind, List.set_cons_succ, List.set_cons_zero, st]
    exact ih
theorem loop1_ok {o0 o1 o2 o3 o4 o6 o7 : Option W} : ∃ o1', loop1M [o0, o1, o2, o3, o4, some (termW (chainF 0)), o6, o7] S = .ok (.nx, [o0, o1', o2, o3, o4, some (termW deepF), o6, o7]) S := by
  obtain ⟨o1', h⟩ := loop1 (S := S) (o0 := o0) (o2 := o2) (o3 := o3) (o4 := o4) (o6 := o6) (o7 := o7) (rngW 0 39) 0 o1 (by decide)
  refine ⟨o1', ?_⟩
  have ok39 : okR 39 = true := by decide
  unfold loop1M
  rw [mFor_eq, mRange1_eq, mCons_eq, mC_eq, ok_bind, mNil_eq, ok_bind, ok_bind, rng1_eq, if_pos ok39, ok_bind, mForI_fix]
  exact h
theorem loop2_ok {o0 o1 o2 o3 o4 o5 o7 : Option W} : ∃ o1', loop2M [o0, o1, o2, o3, o4, o5, some (termW (wideF 0)), o7] S = .ok (.nx, [o0, o1', o2, o3, o4, o5, some (termW (wideF 9)), o7]) S := by
  obtain ⟨o1', h⟩ := loop2 (S := S) (o0 := o0) (o2 := o2) (o3 := o3) (o4 := o4) (o5 := o5) (o7 := o7) (rngW 0 9) 0 o1 (by decide)
  refine ⟨o1', ?_⟩
  have ok9 : okR 9 = true := by decide
  unfold loop2M
  rw [mFor_eq, mRange1_eq, mCons_eq, mC_eq, ok_bind, mNil_eq, ok_bind, ok_bind, rng1_eq, if_pos ok9, ok_bind, mForI_fix]
  exact h
theorem so_ok {b : Bag} (st : Stt b S) : Ev (G__law_statements_filled_so [.ref 1] S) fun v T => v = .bl true := by
  have gt3 : ∀ (u v x : W) (e : Env') (T : Store), gTp 3 (gCons (gNm 5) (gCons (gNm 6) (gCons (gNm 7) gNil))) (.tup [u, v, x]) e T = .ok (((e.set 5 (some u)).set 6 (some v)).set 7 (some x)) T := fun u v x e T => rfl
  have h0 := fun e => start_ok (S := S) (e := e)
  have key : Ev (runB 8 so2 [.ref 1] S) fun v T => v = .bl true ∧ noCloS T = true := by
    simp -implicitDefEqProofs only [so2, runB_eq, startW, mSeq_eq, mAsg_eq, h0, ok_bind, gt3, List.map_cons, List.map_nil, List.length_cons, List.length_nil, List.replicate, List.cons_append, List.nil_append, List.set_cons_succ, List.set_cons_zero, seqK_nx, Nat.zero_add, Nat.reduceAdd, Nat.reduceSub]
    obtain ⟨o1, e1⟩ := loop1_ok (S := S) (o0 := some (.ref 1)) (o1 := none) (o2 := none) (o3 := none) (o4 := none) (o6 := some (termW (wideF 0))) (o7 := some (termW aF))
    rw [e1]
    simp -implicitDefEqProofs only [ok_bind, seqK_nx, mSeq_eq]
    obtain ⟨o1', e2⟩ := loop2_ok (S := S) (o0 := some (.ref 1)) (o1 := o1) (o2 := none) (o3 := none) (o4 := none) (o5 := some (termW deepF)) (o7 := some (termW aF))
    rw [e2]
    simp -implicitDefEqProofs only [ok_bind, seqK_nx, mSeq_eq, mAsg_eq, mAp_eq, mCons_eq, mNil_eq, mVar_0, badS, gLst_eq, show badsW.length ≤ lim by decide, if_true, ev_bind]
    refine ev_one (ws := badsW) (.inl rfl) st.bag st.ok (by decide) (by decide) fun w b2 hw hb2 => ?_
    have st2 := st.draw hb2
    generalize S.set 1 b2.ob = S2 at st2 ⊢
    have B := bads w hw
    have a1 := fun e => asksS (S := S2) st2.t0 (e := e)
    have d1 := fun o0 o1 o3 o4 o5 o6 o7 => dueS (S := S2) (w := w) (o0 := o0) (o1 := o1) (o3 := o3) (o4 := o4) (o5 := o5) (o6 := o6) (o7 := o7)
    have ld : (dueSW w).length ≤ lim := by show 6 ≤ lim; decide
    obtain ⟨T, k, e3⟩ := testS_ok (o0 := some (.ref 1)) (o1 := o1') B st2.no
    have l6 : (6 : Nat) ≤ lim := by decide
    generalize dueSW w = D at d1 ld e3
    simp -implicitDefEqProofs only [ev_ok, gNm_eq, List.set_cons_succ, List.set_cons_zero, seqK_nx, mSeq_eq, mAsg_eq, ev_bind, mAp_eq, a1, ok_bind, gLst_eq, List.length_cons, List.length_nil, Nat.zero_add, Nat.reduceAdd, l6, if_true, d1, ld, mRet_eq, e3, runK_rt, true_and]
    exact k.no st2.no
  obtain ⟨v, T, e, rfl, n⟩ := key
  refine ⟨.bl true, T, ?_, rfl⟩
  unfold G__law_statements_filled_so runMk
  rw [so2_eq, if_pos ⟨rfl, st.no⟩, e]
  exact if_pos ⟨rfl, n⟩
end
end Dk07
end
section
set_option maxRecDepth 100000
set_option maxHeartbeats 4000000
namespace Dk07
open PySem PySem.Spec L2 RL OrdX
open LC
open LTm hiding G_Term___and__ G_Term___invert__ G_Term___or__ G_Term___rand__ G_Term___ror__ G_Term___rsub__ G_Term___sub__ G_Term_closed G_Term_of G_Term_opened G_Term_rim G__law_term G_joined G_need_size joined1 joined2 need_ok of_name of_term opG opR opr_ok sh_Term___and__ sh_Term___invert__ sh_Term___or__ sh_Term___rand__ sh_Term___ror__ sh_Term___rsub__ sh_Term___sub__ sh_Term_closed sh_Term_of sh_Term_opened sh_Term_rim sh__law_term sh_joined sh_need_size
open LTj
open PyProof.Rows hiding St
section
variable {S : Store} {f a b : Form}
noncomputable def dueL : SM W := (mAp gLst (mCons (mAp (G__law_filled 10) (mCons (mVar 3) (mCons (mDisp (mPCons (mC (.str "ax")) (mVar 11) (mPCons (mC (.str "bx")) (mVar 12) mPNil))) mNil))) (mCons (mAp (G__law_filled 10) (mCons (mVar 3) (mCons (mDisp (mPCons (mC (.str "cx")) (mAp gTup (mCons (mC (.str "name")) (mCons (mC (.str "ax")) mNil))) mPNil)) mNil))) (mCons (mAp (G__law_filled 10) (mCons (mVar 3) (mCons (mVar 4) mNil))) (mCons (mVar 3) mNil)))))
noncomputable def foundL : SM W := (mAp gLst (mCons (mMethKw "Term" "filled" G_Term_filled ["bx", "ax"] (mVar 13) (mCons (mVar 15) (mCons (mVar 14) mNil))) (mCons (mMethKw "Term" "filled" G_Term_filled ["cx", "zz"] (mVar 13) (mCons (mC (.str "ax")) (mCons (mC .non) mNil))) (mCons (mMethKw "Term" "filled" G_Term_filled ["ax", "bx"] (mVar 13) (mCons (mC (.str "bx")) (mCons (mC (.str "ax")) mNil))) (mCons (mMethKw "Term" "filled" G_Term_filled [] (mVar 13) mNil) mNil)))))
noncomputable def test1 : SM W := (mAp (G__law_same 10) (mCons (mLc (mItems (mVar 6)) [9] (gNm 9) mYes (mMeth "Term" "text" G_Term_text (mVar 9) mNil)) (mCons (mLc (mItems (mVar 5)) [9] (gNm 9) mYes (mAp (G__law_text 24) (mCons (mVar 9) mNil))) mNil)))
noncomputable def sizesL : SM W := (mLc (mItems (mVar 6)) [9] (gNm 9) mYes (mAp gTup (mCons (mMeth "Term" "depth" G_Term_depth (mVar 9) mNil) (mCons (mMeth "Term" "parts" G_Term_parts (mVar 9) mNil) mNil))))
noncomputable def test2 : SM Bool := (mOrT (mNotT (mTru (mAp (G__law_same 10) (mCons (mVar 7) (mCons (mLc (mItems (mVar 5)) [9] (gNm 9) mYes (mAp (G__law_size 10) (mCons (mVar 9) mNil))) mNil))))) (mOrT (mBT (gEq true) (mMeth "Term" "text" G_Term_text (mVar 13) mNil) (mAp (G__law_text 24) (mCons (mVar 3) mNil))) (mBT (gEq true) (mMeth "Term" "text" G_Term_text (mVar 14) mNil) (mAp (G__law_text 24) (mCons (mVar 11) mNil)))))
noncomputable def lateM : SM W := (mMethKw "Statement" "filled" G_Statement_filled ["ax", "dx"] (mAp G__law_statement (mCons (mVar 8) mNil)) (mCons (mVar 15) (mCons (mC (.str "zz")) mNil)))
noncomputable def knownM : SM W := (mDisp (mPCons (mC (.str "ax")) (mVar 12) (mPCons (mC (.str "dx")) (mAp gTup (mCons (mC (.str "name")) (mCons (mC (.str "zz")) mNil))) mPNil)))
noncomputable def test3 : SM Bool := (mBT (gEq true) (mMeth "Statement" "text" G_Statement_text (mVar 9) mNil) (mAp G__law_saying_text (mCons (mAp gTup (mCons (mBin gIx (mVar 8) (mC (.int 0))) (mCons (mAp (G__law_filled 10) (mCons (mVar 3) (mCons (mVar 10) mNil))) (mCons (mAp (G__law_filled 10) (mCons (mVar 11) (mCons (mVar 10) mNil))) mNil)))) mNil)))
noncomputable def swapM : SM W := (mDisp (mPCons (mC (.str "ax")) (mAp gTup (mCons (mC (.str "name")) (mCons (mC (.str "bx")) mNil))) (mPCons (mC (.str "bx")) (mAp gTup (mCons (mC (.str "name")) (mCons (mC (.str "ax")) mNil))) mPNil)))
noncomputable def sayM : SM W := (mAp gTup (mCons (mAp G__law_one (mCons (mVar 1) (mCons (mAp gLst (mCons (mC (.str "within")) (mCons (mC (.str "equal")) mNil))) mNil))) (mCons (mVar 3) (mCons (mVar 11) mNil))))
noncomputable def law2 : SS := (mSeq (mAsg (mAp G__law_cells (mCons (mVar 0) mNil)) (gNm 1))
  (mSeq (mFor (mRange1 (mCons (mC (.int 4)) mNil)) (gNm 2) (mSeq (mAsg (mAp (G__law_form 10) (mCons (mVar 1) (mCons (mAp gLst (mCons (mC (.str "ax")) (mCons (mC (.str "bx")) (mCons (mC (.str "cx")) mNil)))) (mCons (mC (.int 4)) mNil)))) (gNm 3))
  (mSeq (mPar 11 12 (mCons (mAp (G__law_form 10) (mCons (mVar 1) (mCons (mAp gLst (mCons (mC (.str "ax")) (mCons (mC (.str "bx")) (mCons (mC (.str "dx")) mNil)))) (mCons (mC (.int 3)) mNil)))) (mCons (mAp (G__law_form 10) (mCons (mVar 1) (mCons (mAp gLst (mCons (mC (.str "cx")) (mCons (mC (.str "ax")) mNil))) (mCons (mC (.int 2)) mNil)))) mNil)))
  (mSeq (mPar3 13 14 15 (mCons (mAp (G__law_term 10) (mCons (mVar 3) mNil)) (mCons (mAp (G__law_term 10) (mCons (mVar 11) mNil)) (mCons (mAp (G__law_term 10) (mCons (mVar 12) mNil)) mNil))))
  (mSeq (mAsg swapM (gNm 4))
  (mSeq (mAsg dueL (gNm 5))
  (mSeq (mAsg foundL (gNm 6))
  (mSeq (mIf (mNotT (mTru test1)) (mRet (mC (.bl false))) mSkip)
  (mSeq (mAsg sizesL (gNm 7))
  (mSeq (mIf test2 (mRet (mC (.bl false))) mSkip)
  (mSeq (mAsg sayM (gNm 8))
  (mSeq (mAsg lateM (gNm 9))
  (mSeq (mAsg knownM (gNm 10))
  (mIf test3 (mRet (mC (.bl false))) mSkip))))))))))))))
  (mRet (mAp G__law_statements_filled_so (mCons (mVar 1) mNil)))))
theorem law2_eq : sh_law = law2 := rfl
theorem law_size_ok : ∀ (f : Form) (n : Nat), dep f ≤ n → G__law_size n [toW f] S = .ok (.tup [.int (dep f), .int (prt f)]) S
  | f, 0, hd => by have := dep_pos f; omega
  | .all, n + 1, _ => by simp [G__law_size, runB_eq, sh__law_size, startW, toW, dep, prt]
  | .none, n + 1, _ => by simp [G__law_size, runB_eq, sh__law_size, startW, toW, dep, prt]
  | .name x, n + 1, _ => by simp [G__law_size, runB_eq, sh__law_size, startW, toW, dep, prt]
  | .un u f, n + 1, hd => by
    have ih := law_size_ok f n (by simp [dep] at hd; omega)
    have hz : (0 : Nat) < lim := by decide
    cases u <;> simp [G__law_size, runB_eq, sh__law_size, startW, toW, U.w, dep, prt, cutW, HT.sIx, ih, wipeW, hz, gMax, gSum, intsW] <;> omega
  | .bin b f g, n + 1, hd => by
    have ih := law_size_ok f n (by simp [dep] at hd; omega)
    have ih' := law_size_ok g n (by simp [dep] at hd; omega)
    have hz : (0 : Nat) < lim := by decide
    have hz1 : (1 : Nat) < lim := by decide
    cases b <;> simp [G__law_size, runB_eq, sh__law_size, startW, toW, B.w, dep, prt, cutW, HT.sIx, ih, ih', wipeW, hz, hz1, gMax, gSum, intsW] <;> omega
noncomputable abbrev C : List Nat := [99, 120]
noncomputable abbrev D : List Nat := [100, 120]
noncomputable abbrev Z : List Nat := [122, 122]
theorem eC : Str.ofString "cx" = tx C := lit_eq (by decide +kernel)
theorem eD : Str.ofString "dx" = tx D := lit_eq (by decide +kernel)
theorem eZ : Str.ofString "zz" = tx Z := lit_eq (by decide +kernel)
theorem ofZ : G_Term_of [.str "zz"] S = .ok (termW (.name Z)) S := by
  rw [show (W.str "zz") = .str (tx Z) from congrArg W.str eZ]; exact of_name (by decide +kernel) (by decide)
/-- names of a list alone -/
noncomputable def In (l : List (List Nat)) (f : Form) : Prop := ∀ x, Sub (.name x) f → x ∈ l
theorem in_nm {l : List (List Nat)} (h : In l f) {x : Str} (m : x ∈ NM f) : ∃ y ∈ l, x = tx y := by
  obtain ⟨y, h1, h2⟩ := nm_sub m
  exact ⟨y, h y h1, h2⟩
noncomputable def two (k1 k2 : Str) (w1 w2 : Form) : Str → Option Form := fun x => if x = k1 then some w1 else if x = k2 then some w2 else none
noncomputable def one (k1 : Str) (w1 : Form) : Str → Option Form := fun x => if x = k1 then some w1 else none
theorem val2 {k1 k2 x : Str} {w1 w2 : W} : valW [(.inr k1, w1), (.inr k2, w2)] (.inr x) = if x = k1 then some w1 else if x = k2 then some w2 else none := by
  by_cases h1 : k1 = x
  · subst h1; simp [valW]
  · have h1' : ¬ (x = k1) := fun z => h1 z.symm
    by_cases h2 : k2 = x
    · subst h2; simp [valW, h1, h1']
    · have h2' : ¬ (x = k2) := fun z => h2 z.symm
      simp [valW, h1, h2, h1', h2']
theorem val1 {k1 x : Str} {w1 : W} : valW [(.inr k1, w1)] (.inr x) = if x = k1 then some w1 else none := by
  by_cases h1 : k1 = x
  · subst h1; simp [valW]
  · have h1' : ¬ (x = k1) := fun z => h1 z.symm
    simp [valW, h1, h1']
theorem has2 {k1 k2 : Str} {g1 g2 : Form} : Has [(.inr k1, toW g1), (.inr k2, toW g2)] (two k1 k2 g1 g2) toW f := fun x _ => by
  rw [val2]; unfold two
  split
  · rfl
  · split <;> rfl
theorem has1 {k1 : Str} {g1 : Form} : Has [(.inr k1, toW g1)] (one k1 g1) toW f := fun x _ => by
  rw [val1]; unfold one
  split <;> rfl
theorem two_of {k1 k2 : Str} {g1 g2 : Form} {d : Nat} (h1 : Dr d g1) (h2 : Dr d g2) : ∀ y g, two k1 k2 g1 g2 y = some g → Dr d g := fun y g e => by
  unfold two at e
  split at e
  · cases e; exact h1
  · split at e
    · cases e; exact h2
    · cases e
theorem one_of {k1 : Str} {g1 : Form} {d : Nat} (h1 : Dr d g1) : ∀ y g, one k1 g1 y = some g → Dr d g := fun y g e => by
  unfold one at e
  split at e
  · cases e; exact h1
  · cases e
theorem Dr.up {d e : Nat} (h : Dr d f) (le : d ≤ e) : Dr e f := ⟨h.nm, Nat.le_trans h.dep le⟩
theorem nameD {x : List Nat} (h : nameL x = true) (h6 : x.length ≤ 6) : Dr 1 (.name x) := ⟨fun y m => by cases m; exact ⟨h, h6⟩, Nat.le_refl _⟩
theorem dA : Dr 1 (.name A) := nameD (by decide +kernel) (by decide)
theorem dB : Dr 1 (.name B) := nameD (by decide +kernel) (by decide)
theorem dZ : Dr 1 (.name Z) := nameD (by decide +kernel) (by decide)
/-- filled, where nothing is wrong -/
theorem fill_ok {d : Nat} {kws : KW} {τ : Str → Option Form} (h : Dr d f) (hd : d ≤ 4) (hk : ∀ x ∈ NM f, (valW kws (.inr x) = none ∧ τ x = none) ∨ ∃ w g, valW kws (.inr x) = some w ∧ τ x = some g ∧ ∀ S, G_Term_of [w] S = .ok (termW g) S) (hτ : ∀ y g, τ y = some g → Dr 3 g) :
    ∃ T, Keep S.length S T ∧ G_Term_filled [termW f, dicT kws] S = .ok (termW (sub τ f)) T := by
  obtain ⟨T, k, e⟩ := filled_res (S := S) (f := f) (kws := kws) (G := fun x => (τ x).getD .all) (by have := h.dep; omega) fun x m w hw S => by
    rcases hk x m with ⟨q, _⟩ | ⟨w', g, q1, q2, q3⟩
    · rw [q] at hw; cases hw
    · rw [q1] at hw; cases hw
      rw [q2]; exact q3 S
  refine ⟨T, k, ?_⟩
  rw [e]
  have sc : sub (tauK kws fun x => (τ x).getD .all) f = sub τ f := sub_congr fun x m => by
    rcases hk x m with ⟨q1, q2⟩ | ⟨w', g, q1, q2, _⟩ <;> simp [tauK, giv, q1, q2]
  rw [sc]
  exact (h.sub (k := 2) hτ).out (by omega)
theorem sub_id : ∀ f : Form, sub (fun _ => none) f = f
  | .name _ => rfl
  | .un _ f => by simp [sub, sub_id f]
  | .bin _ f g => by simp [sub, sub_id f, sub_id g]
  | .all => rfl
  | .none => rfl
section
variable {o0 o1 o2 o3 o4 o5 o6 o7 o8 o9 o10 o11 o12 o13 o14 o15 : Option W}
noncomputable def swapT : W := dicT [(.inr (tx A), toW (.name B)), (.inr (tx B), toW (.name A))]
theorem swap_ok {e : Env'} : swapM e S = .ok swapT S := by kernel_rfl
theorem known_ok : knownM [o0, o1, o2, o3, o4, o5, o6, o7, o8, o9, o10, o11, some (toW b), o13, o14, o15] S = .ok (dicT [(.inr (tx A), toW b), (.inr (tx D), toW (.name Z))]) S := by
  generalize toW b = wb
  kernel_rfl
/-- the four forms that are due -/
noncomputable def fs (f a b : Form) : List Form := [sub (two (tx A) (tx B) a b) f, sub (one (tx C) (.name A)) f, sub (two (tx A) (tx B) (.name B) (.name A)) f, f]
theorem due_ok (hf : dep f ≤ 4) : dueL [o0, o1, o2, some (toW f), some swapT, o5, o6, o7, o8, o9, o10, some (toW a), some (toW b), o13, o14, o15] S = .ok (.lst ((fs f a b).map toW)) S := by
  have l1 := law_filled_ok (S := S) f 10 (by omega) (has2 (k1 := tx A) (k2 := tx B) (g1 := a) (g2 := b))
  have l2 := law_filled_ok (S := S) f 10 (by omega) (has1 (k1 := tx C) (g1 := .name A))
  have l3 := law_filled_ok (S := S) f 10 (by omega) (has2 (k1 := tx A) (k2 := tx B) (g1 := .name B) (g2 := .name A))
  have d1 : ∀ wa wb : W, gDisp [(.str "ax", wa), (.str "bx", wb)] S = .ok (dicT [(.inr (tx A), wa), (.inr (tx B), wb)]) S := fun wa wb => by kernel_rfl
  have d2 : ∀ wa : W, gDisp [(.str "cx", wa)] S = .ok (dicT [(.inr (tx C), wa)]) S := fun wa => by kernel_rfl
  have nA : W.tup [.str "name", .str "ax"] = toW (.name A) := by kernel_rfl
  have c2 : (2 : Nat) ≤ lim := by decide
  have c4 : (4 : Nat) ≤ lim := by decide
  unfold dueL
  unfold swapT
  simp only [mAp_eq, mCons_eq, mNil_eq, mVar_s, mVar_0, ok_bind, mDisp_eq, mPCons, mPNil, mC_eq, d1, l1, gTup_eq, List.length_cons, List.length_nil, Nat.zero_add, Nat.reduceAdd, c2, if_true, nA, d2, l2, l3, gLst_eq, c4]
  rfl
theorem found_ok (hf : Dr 4 f) (ha : Dr 3 a) (hb : Dr 2 b) (i1 : In [A, B, C] f) : ∃ T, Keep S.length S T ∧ foundL [o0, o1, o2, o3, o4, o5, o6, o7, o8, o9, o10, o11, o12, some (termW f), some (termW a), some (termW b)] S = .ok (.lst ((fs f a b).map termW)) T := by
  have neBA : ¬ (tx B = tx A) := by decide +kernel
  have neCA : ¬ (tx C = tx A) := by decide +kernel
  have neCB : ¬ (tx C = tx B) := by decide +kernel
  have neAC : ¬ (tx A = tx C) := by decide +kernel
  have neBC : ¬ (tx B = tx C) := by decide +kernel
  have neAB : ¬ (tx A = tx B) := by decide +kernel
  have neZ : ∀ x ∈ NM f, ¬ (x = tx Z) := fun x m z => by
    obtain ⟨y, hy, e⟩ := in_nm i1 m
    rw [e] at z
    simp at hy
    rcases hy with rfl | rfl | rfl <;> revert z <;> decide +kernel
  have kw1 : kwsW ["bx", "ax"] [termW b, termW a] = [(.inr (tx B), termW b), (.inr (tx A), termW a)] := by
    show [(Sum.inr (Str.ofString "bx"), _), (Sum.inr (Str.ofString "ax"), _)] = _
    rw [eA, eB]
  have kw2 : kwsW ["cx", "zz"] [.str "ax", .non] = [(.inr (tx C), .str "ax"), (.inr (tx Z), .non)] := by
    show [(Sum.inr (Str.ofString "cx"), _), (Sum.inr (Str.ofString "zz"), _)] = _
    rw [eC, eZ]
  have kw3 : kwsW ["ax", "bx"] [.str "bx", .str "ax"] = [(.inr (tx A), .str "bx"), (.inr (tx B), .str "ax")] := by
    show [(Sum.inr (Str.ofString "ax"), _), (Sum.inr (Str.ofString "bx"), _)] = _
    rw [eA, eB]
  obtain ⟨T1, k1, e1⟩ := fill_ok (S := S) (kws := kwsW ["bx", "ax"] [termW b, termW a]) (τ := two (tx A) (tx B) a b) hf (by decide) (fun x m => by
    rw [kw1, val2]; unfold two
    by_cases h1 : x = tx A
    · subst h1; exact .inr ⟨_, a, by simp [neAB], by simp, fun S => of_term a⟩
    · by_cases h2 : x = tx B
      · subst h2; exact .inr ⟨_, b, by simp, by simp [neBA], fun S => of_term b⟩
      · exact .inl ⟨by simp [h1, h2], by simp [h1, h2]⟩) (two_of ha (hb.up (by decide)))
  obtain ⟨T2, k2, e2⟩ := fill_ok (S := T1) (kws := kwsW ["cx", "zz"] [.str "ax", .non]) (τ := one (tx C) (.name A)) hf (by decide) (fun x m => by
    rw [kw2, val2]; unfold one
    by_cases h1 : x = tx C
    · subst h1; exact .inr ⟨_, .name A, by simp, by simp, fun S => ofA⟩
    · exact .inl ⟨by simp [h1, neZ x m], by simp [h1]⟩) (one_of (dA.up (by decide)))
  obtain ⟨T3, k3, e3⟩ := fill_ok (S := T2) (kws := kwsW ["ax", "bx"] [.str "bx", .str "ax"]) (τ := two (tx A) (tx B) (.name B) (.name A)) hf (by decide) (fun x m => by
    rw [kw3, val2]; unfold two
    by_cases h1 : x = tx A
    · subst h1; exact .inr ⟨_, .name B, by simp, by simp, fun S => ofB⟩
    · by_cases h2 : x = tx B
      · subst h2; exact .inr ⟨_, .name A, by simp [neBA], by simp [neBA], fun S => ofA⟩
      · exact .inl ⟨by simp [h1, h2], by simp [h1, h2]⟩) (two_of (dB.up (by decide)) (dA.up (by decide)))
  obtain ⟨T4, k4, e4⟩ := fill_ok (S := T3) (kws := kwsW [] []) (τ := fun _ => none) hf (by decide) (fun x m => .inl ⟨rfl, rfl⟩) (fun y g e => by cases e)
  rw [sub_id] at e4
  have c4 : (4 : Nat) ≤ lim := by decide
  refine ⟨T4, ((k1.trans (k2.le k1.len)).trans (k3.le (Nat.le_trans k1.len k2.len))).trans (k4.le (Nat.le_trans k1.len (Nat.le_trans k2.len k3.len))), ?_⟩
  unfold foundL
  rw [mAp_eq, mCons_eq, kw_term (f := f) (zs := [termW b, termW a]) rfl rfl, e1, ok_bind, mCons_eq, kw_term (f := f) (zs := [.str "ax", .non]) rfl rfl, e2, ok_bind, mCons_eq, kw_term (f := f) (zs := [.str "bx", .str "ax"]) rfl rfl, e3, ok_bind, mCons_eq, kw_term (f := f) (zs := []) rfl rfl, e4]
  simp only [mNil_eq, ok_bind, gLst_eq, List.length_cons, List.length_nil, Nat.zero_add, Nat.reduceAdd, c4, if_true]
  rfl
theorem fs_dr (hf : Dr 4 f) (ha : Dr 3 a) (hb : Dr 2 b) : ∀ g ∈ fs f a b, Dr 6 g := fun g m => by
  simp [fs] at m
  rcases m with rfl | rfl | rfl | rfl
  · exact hf.sub (k := 2) (two_of ha (hb.up (by decide)))
  · exact hf.sub (k := 2) (one_of (dA.up (by decide)))
  · exact hf.sub (k := 2) (two_of (dB.up (by decide)) (dA.up (by decide)))
  · exact hf.up (by decide)
/-- a comprehension that leaves the store alone -/
theorem lcL_map {α : Type} {g : GM} {m : SM W} {s0 : Env'} {u v : α → W} : ∀ (xs : List α) (acc : List W), acc.length + xs.length ≤ lim → (∀ x ∈ xs, ∃ s1, g (u x) s0 S = .ok s1 S ∧ m s1 S = .ok (v x) S) →
    mLcL g mYes m s0 (xs.map u) acc S = .ok (acc ++ xs.map v) S
  | [], acc, _, _ => by simp [mLcL]
  | x :: r, acc, hl, h => by
    obtain ⟨s1, h1, h2⟩ := h x List.mem_cons_self
    rw [List.length_cons] at hl
    have hl' : acc.length < lim := by omega
    have ih := lcL_map (g := g) (m := m) (s0 := s0) (u := u) (v := v) r (acc ++ [v x]) (by rw [List.length_append, List.length_singleton]; omega) fun y hy => h y (List.mem_cons_of_mem _ hy)
    simp only [List.map_cons, mLcL_cons, mLcT_eq, h1, nox_ok, ok_bind, mYes_eq, h2, if_true, hl']
    rw [ih]
    simp
theorem plain_strs : ∀ l : List W, (∀ w ∈ l, plainW 9 w = true) → l.length ≤ lim → plainW 10 (.lst l) = true := fun l h hl => by
  show (decide (l.length ≤ lim) && l.all (plainW 9)) = true
  rw [decide_eq_true hl, Bool.true_and, List.all_eq_true]
  exact h
theorem test1_ok (l : List Form) (h4 : l.length ≤ 4) (hl : ∀ g ∈ l, Dr 6 g) : test1 [o0, o1, o2, o3, o4, some (.lst (l.map toW)), some (.lst (l.map termW)), o7, o8, o9, o10, o11, o12, o13, o14, o15] S = .ok (.bl true) S := by
  have hlim : lim = 16777216 := rfl
  have c1 : mLcL (gNm 9) mYes (mMeth "Term" "text" G_Term_text (mVar 9) mNil) [o0, o1, o2, o3, o4, some (.lst (l.map toW)), some (.lst (l.map termW)), o7, o8, none, o10, o11, o12, o13, o14, o15] (l.map termW) [] S = .ok (l.map fun g => .str (tx (LTm.txt g))) S := by
    have := lcL_map (S := S) (g := gNm 9) (m := mMeth "Term" "text" G_Term_text (mVar 9) mNil) (s0 := [o0, o1, o2, o3, o4, some (.lst (l.map toW)), some (.lst (l.map termW)), o7, o8, none, o10, o11, o12, o13, o14, o15]) (u := termW) (v := fun g => .str (tx (LTm.txt g))) l [] (by simp; omega) fun g m => ⟨_, rfl, by
      have t := (hl g m).text (S := S) (by decide)
      simp only [mMeth_eq, mVar_s, mVar_0, ok_bind, methK_text, mNil_eq, t, List.set_cons_succ, List.set_cons_zero]⟩
    simpa using this
  have c2 : mLcL (gNm 9) mYes (mAp (G__law_text 24) (mCons (mVar 9) mNil)) [o0, o1, o2, o3, o4, some (.lst (l.map toW)), some (.lst (l.map termW)), o7, o8, none, o10, o11, o12, o13, o14, o15] (l.map toW) [] S = .ok (l.map fun g => .str (tx (LTm.txt g))) S := by
    have := lcL_map (S := S) (g := gNm 9) (m := mAp (G__law_text 24) (mCons (mVar 9) mNil)) (s0 := [o0, o1, o2, o3, o4, some (.lst (l.map toW)), some (.lst (l.map termW)), o7, o8, none, o10, o11, o12, o13, o14, o15]) (u := toW) (v := fun g => .str (tx (LTm.txt g))) l [] (by simp; omega) fun g m => ⟨_, rfl, by
      have t := (hl g m).ltext (S := S) (by decide)
      simp only [mAp_eq, mCons_eq, mNil_eq, mVar_s, mVar_0, ok_bind, t, List.set_cons_succ, List.set_cons_zero]⟩
    simpa using this
  have sm := same_self 10 (.lst (l.map fun g => W.str (tx (LTm.txt g)))) (plain_strs _ (fun w m => by
    obtain ⟨g, _, rfl⟩ := List.mem_map.mp m; rfl) (by simp; omega)) S
  unfold test1
  simp -implicitDefEqProofs only [mAp_eq, mCons_eq, mNil_eq, mLc_eq, mItems_eq, mVar_s, mVar_0, ok_bind, mLcI_fix, wipeW, List.set_cons_succ, List.set_cons_zero, c1, c2, sm]
end
end
end Dk07
end
section
set_option maxRecDepth 100000
set_option maxHeartbeats 4000000
namespace Dk07
open PySem PySem.Spec L2 RL OrdX
open LC
open LTm hiding G_Term___and__ G_Term___invert__ G_Term___or__ G_Term___rand__ G_Term___ror__ G_Term___rsub__ G_Term___sub__ G_Term_closed G_Term_of G_Term_opened G_Term_rim G__law_term G_joined G_need_size joined1 joined2 need_ok of_name of_term opG opR opr_ok sh_Term___and__ sh_Term___invert__ sh_Term___or__ sh_Term___rand__ sh_Term___ror__ sh_Term___rsub__ sh_Term___sub__ sh_Term_closed sh_Term_of sh_Term_opened sh_Term_rim sh__law_term sh_joined sh_need_size
open LTj
open PyProof.Rows hiding St
section
variable {S : Store} {f a b : Form}
section
variable {o0 o1 o2 o3 o4 o5 o6 o7 o8 o9 o10 o11 o12 o13 o14 o15 : Option W}
noncomputable def szW (g : Form) : W := .tup [.int (dep g), .int (prt g)]
theorem depthT : G_Term_depth [termW f] S = .ok (.int (dep f)) S := by
  simp [G_Term_depth, runB_eq, sh_Term_depth, startW]
theorem partsT : G_Term_parts [termW f] S = .ok (.int (prt f)) S := by
  simp [G_Term_parts, runB_eq, sh_Term_parts, startW]
theorem sizes_ok (l : List Form) (h4 : l.length ≤ 4) : sizesL [o0, o1, o2, o3, o4, o5, some (.lst (l.map termW)), o7, o8, o9, o10, o11, o12, o13, o14, o15] S = .ok (.lst (l.map szW)) S := by
  have hlim : lim = 16777216 := rfl
  have l2 : (2 : Nat) ≤ lim := by decide
  have c1 : mLcL (gNm 9) mYes (mAp gTup (mCons (mMeth "Term" "depth" G_Term_depth (mVar 9) mNil) (mCons (mMeth "Term" "parts" G_Term_parts (mVar 9) mNil) mNil))) [o0, o1, o2, o3, o4, o5, some (.lst (l.map termW)), o7, o8, none, o10, o11, o12, o13, o14, o15] (l.map termW) [] S = .ok (l.map szW) S := by
    have := lcL_map (S := S) (g := gNm 9) (m := mAp gTup (mCons (mMeth "Term" "depth" G_Term_depth (mVar 9) mNil) (mCons (mMeth "Term" "parts" G_Term_parts (mVar 9) mNil) mNil))) (s0 := [o0, o1, o2, o3, o4, o5, some (.lst (l.map termW)), o7, o8, none, o10, o11, o12, o13, o14, o15]) (u := termW) (v := szW) l [] (by simp; omega) fun g m => ⟨_, rfl, by
      simp only [mAp_eq, mCons_eq, mMeth_eq, mVar_s, mVar_0, ok_bind, methK_depth, methK_parts, mNil_eq, depthT, partsT, List.set_cons_succ, List.set_cons_zero, gTup_eq, List.length_cons, List.length_nil, Nat.zero_add, Nat.reduceAdd, l2, if_true]
      rfl⟩
    simpa using this
  unfold sizesL
  simp -implicitDefEqProofs only [mLc_eq, mItems_eq, mVar_s, mVar_0, ok_bind, mLcI_fix, wipeW, List.set_cons_succ, List.set_cons_zero, c1]
theorem test2_ok (l : List Form) (h4 : l.length ≤ 4) (hl : ∀ g ∈ l, Dr 6 g) (hf : Dr 4 f) (ha : Dr 3 a) : test2 [o0, o1, o2, some (toW f), o4, some (.lst (l.map toW)), o6, some (.lst (l.map szW)), o8, o9, o10, some (toW a), o12, some (termW f), some (termW a), o15] S = .ok false S := by
  have hlim : lim = 16777216 := rfl
  have c2 : mLcL (gNm 9) mYes (mAp (G__law_size 10) (mCons (mVar 9) mNil)) [o0, o1, o2, some (toW f), o4, some (.lst (l.map toW)), o6, some (.lst (l.map szW)), o8, none, o10, some (toW a), o12, some (termW f), some (termW a), o15] (l.map toW) [] S = .ok (l.map szW) S := by
    have := lcL_map (S := S) (g := gNm 9) (m := mAp (G__law_size 10) (mCons (mVar 9) mNil)) (s0 := [o0, o1, o2, some (toW f), o4, some (.lst (l.map toW)), o6, some (.lst (l.map szW)), o8, none, o10, some (toW a), o12, some (termW f), some (termW a), o15]) (u := toW) (v := szW) l [] (by simp; omega) fun g m => ⟨_, rfl, by
      have t := law_size_ok (S := S) g 10 (by have := (hl g m).dep; omega)
      simp only [mAp_eq, mCons_eq, mNil_eq, mVar_s, mVar_0, ok_bind, t, List.set_cons_succ, List.set_cons_zero]
      rfl⟩
    simpa using this
  have sm := same_self 10 (.lst (l.map szW)) (plain_strs _ (fun w m => by
    obtain ⟨g, _, rfl⟩ := List.mem_map.mp m; rfl) (by simp; omega)) S
  have t1 := hf.text (S := S) (by decide)
  have t2 := hf.ltext (S := S) (by decide)
  have t3 := ha.text (S := S) (by decide)
  have t4 := ha.ltext (S := S) (by decide)
  have htru : truW S (.bl true) = some true := rfl
  unfold test2
  simp -implicitDefEqProofs only [mOrT_eq, mNotT_eq, mTru_eq, mBT_eq, mAp_eq, mCons_eq, mNil_eq, mMeth_eq, mLc_eq, mItems_eq, mVar_s, mVar_0, ok_bind, mLcI_fix, wipeW, List.set_cons_succ, List.set_cons_zero, c2, sm, htru, Bool.not_true, Bool.false_eq_true, if_false, methK_text, t1, t2, t3, t4, gEq_str, tx_inj, decide_true, xorB, asB_ok, if_true]
noncomputable def t4 (b : Form) : Str → Option Form := two (tx A) (tx D) b (.name Z)
theorem late_ok {r : Rl3} (hr : r ≠ .empty) (hf : Dr 4 f) (ha : Dr 3 a) (hb : Dr 2 b) : ∃ T, Keep S.length S T ∧ lateM [o0, o1, o2, o3, o4, o5, o6, o7, some (.tup [.str r.s, toW f, toW a]), o9, o10, o11, o12, o13, o14, some (termW b)] S = .ok (stW r (sub (t4 b) f) (termW (sub (t4 b) a))) T := by
  have neDA : ¬ (tx D = tx A) := by decide +kernel
  have kw : kwsW ["ax", "dx"] [termW b, .str "zz"] = [(.inr (tx A), termW b), (.inr (tx D), .str "zz")] := by
    show [(Sum.inr (Str.ofString "ax"), _), (Sum.inr (Str.ofString "dx"), _)] = _
    rw [eA, eD]
  have hk : ∀ (g : Form), ∀ x ∈ NM g, (valW (kwsW ["ax", "dx"] [termW b, .str "zz"]) (.inr x) = none ∧ t4 b x = none) ∨ ∃ w g, valW (kwsW ["ax", "dx"] [termW b, .str "zz"]) (.inr x) = some w ∧ t4 b x = some g ∧ ∀ S, G_Term_of [w] S = .ok (termW g) S := fun g x m => by
    rw [kw, val2]; unfold t4 two
    by_cases h1 : x = tx A
    · subst h1; exact .inr ⟨_, b, by simp, by simp, fun S => of_term b⟩
    · by_cases h2 : x = tx D
      · subst h2; exact .inr ⟨_, .name Z, by simp [neDA], by simp [neDA], fun S => ofZ⟩
      · exact .inl ⟨by simp [h1, h2], by simp [h1, h2]⟩
  have ht : ∀ y g, t4 b y = some g → Dr 3 g := two_of (hb.up (by decide)) (dZ.up (by decide))
  obtain ⟨T1, k1, e1⟩ := fill_ok (S := S) hf (by decide) (hk f) ht
  obtain ⟨T2, k2, e2⟩ := fill_ok (S := T1) (ha.up (e := 4) (by decide)) (by decide) (hk a) ht
  refine ⟨T2, k1.trans (k2.le k1.len), ?_⟩
  have st := law_st_2 (S := S) hr hf (ha.up (e := 4) (by decide)) (by decide)
  have r2 := rep_2 (S := S) (g := a) (r := r) ⟨rfl, by decide +kernel, by decide +kernel, by decide⟩ e1
  rw [e2, ok_bind] at r2
  unfold lateM
  rw [kw_st (r := r) (f := f) (w := termW a) (zs := [termW b, .str "zz"]) (by simp [st]) rfl]
  exact r2
theorem test3_ok {r : Rl3} (hr : r ≠ .empty) (hf : Dr 4 f) (ha : Dr 3 a) (hb : Dr 2 b) : test3 [o0, o1, o2, some (toW f), o4, o5, o6, o7, some (.tup [.str r.s, toW f, toW a]), some (stW r (sub (t4 b) f) (termW (sub (t4 b) a))), some (dicT [(.inr (tx A), toW b), (.inr (tx D), toW (.name Z))]), some (toW a), o12, o13, o14, o15] S = .ok false S := by
  have ht : ∀ y g, t4 b y = some g → Dr 3 g := two_of (hb.up (by decide)) (dZ.up (by decide))
  have d1 : Dr 6 (sub (t4 b) f) := hf.sub (k := 2) ht
  have d2 : Dr 6 (sub (t4 b) a) := (ha.sub (k := 2) ht).up (by decide)
  have m := methK_st (S := S) (r := r) (f := sub (t4 b) f) (w := termW (sub (t4 b) a)) (m := "text") (g := G_Statement_text) (mr := mNil) (e := [o0, o1, o2, some (toW f), o4, o5, o6, o7, some (.tup [.str r.s, toW f, toW a]), some (stW r (sub (t4 b) f) (termW (sub (t4 b) a))), some (dicT [(.inr (tx A), toW b), (.inr (tx D), toW (.name Z))]), some (toW a), o12, o13, o14, o15]) (by decide +kernel)
  have t1 := text_2 (S := S) hr d1 d2 (by decide)
  have t2 := law_text_2 (S := S) hr d1 d2 (by decide)
  have l1 := law_filled_ok (S := S) f 10 (by have := hf.dep; omega) (has2 (k1 := tx A) (k2 := tx D) (g1 := b) (g2 := .name Z))
  have l2 := law_filled_ok (S := S) a 10 (by have := ha.dep; omega) (has2 (k1 := tx A) (k2 := tx D) (g1 := b) (g2 := .name Z))
  have ix : gIx (.tup [.str r.s, toW f, toW a]) (.int 0) S = .ok (.str r.s) S := by simp
  have l3 : (3 : Nat) ≤ lim := by decide
  change G__law_filled 10 [toW f, _] S = .ok (toW (sub (t4 b) f)) S at l1
  change G__law_filled 10 [toW a, _] S = .ok (toW (sub (t4 b) a)) S at l2
  unfold test3
  simp -implicitDefEqProofs only [mBT_eq, mMeth_eq, mAp_eq, mCons_eq, mNil_eq, mBin_eq, mC_eq, mVar_s, mVar_0, ok_bind, m, t1, ix, l1, l2, gTup_eq, List.length_cons, List.length_nil, Nat.zero_add, Nat.reduceAdd, l3, if_true, t2, gEq_str, tx_inj, decide_true, xorB, Bool.not_true, asB_ok]
end
theorem names1 : W.lst [.str "ax", .str "bx", .str "cx"] = .lst ([A, B, C].map fun a => .str (tx a)) := by kernel_rfl
theorem names2 : W.lst [.str "ax", .str "bx", .str "dx"] = .lst ([A, B, D].map fun a => .str (tx a)) := by kernel_rfl
theorem names3 : W.lst [.str "cx", .str "ax"] = .lst ([C, A].map fun a => .str (tx a)) := by kernel_rfl
theorem nm_ok : ∀ x ∈ [A, B, C, D], nameL x = true ∧ x.length ≤ 6 := by decide +kernel
/-- a drawn form -/
theorem ev_f {l : List (List Nat)} {d : Nat} {Q : W → Store → Prop} {b : Bag} {T : Store} (hl : l ≠ []) (hn : ∀ x ∈ l, x ∈ [A, B, C, D]) (h4 : l.length ≤ 4) (hd : d ≤ 4) (h1 : 1 ≤ d) (st : Stt b T) (k : ∀ f b' T', Dr d f → In l f → Stt b' T' → Q (toW f) T') :
    Ev (G__law_form 10 [.ref 1, .lst (l.map fun a => .str (tx a)), .int d] T) Q :=
  ev_form hl (fun x m => (nm_ok x (hn x m)).1) (by omega) 10 d T b Q (by decide) (by omega) st.bag st.ok fun f b' hf1 hf2 hb => k f b' _ ⟨fun x m => nm_ok x (hn x (hf2 x m)), by omega⟩ hf2 (st.draw hb)
theorem par3 {i j l : Nat} {mr : SM (List W)} {s : Env'} {u v w : W} {T T' : Store} (h : mr s T = .ok [u, v, w] T') : mPar3 i j l mr s T = .ok (.nx, ((s.set i (some u)).set j (some v)).set l (some w)) T' := by
  unfold mPar3
  rw [h]; rfl
theorem plain0 (ns : List Int) (hns : ns.length ≤ 63) : Ev (runB 16 sh_law [.flst (ns.map W.int)] [.tab "_law_statements_filled_so"]) fun v T => v = .bl true := by
  obtain ⟨b, hb, ec⟩ := cells_ok (S := [.tab "_law_statements_filled_so"]) hns
  generalize W.flst (ns.map W.int) = sc at ec ⊢
  have ok4 : okR 4 = true := by decide
  have st0 : Stt b [.tab "_law_statements_filled_so", b.ob] := ⟨rfl, rfl, hb, by
    unfold noCloS
    rw [List.all_cons, List.all_cons, bag_no]; rfl⟩
  rw [law2_eq]
  simp -implicitDefEqProofs only [law2, runB_eq, startW, mSeq_eq, mAsg_eq, mAp_eq, mCons_eq, mNil_eq, mVar_0, mVar_s, mC_eq, ok_bind, ec, gNm_eq, ev_bind, ev_ok, List.map_cons, List.map_nil, List.length_cons, List.length_nil, List.replicate, List.cons_append, List.nil_append, List.set_cons_succ, List.set_cons_zero, seqK_nx, Nat.zero_add, Nat.reduceAdd, Nat.reduceSub, mFor_eq, mRange1_eq, rng1_eq, ok4, if_true, mForI_fix]
  refine Ev.mono (forL_ev (fun r e T => ∃ b o2 o3 o4 o5 o6 o7 o8 o9 o10 o11 o12 o13 o14 o15, Stt b T ∧ e = [some sc, some (.ref 1), o2, o3, o4, o5, o6, o7, o8, o9, o10, o11, o12, o13, o14, o15]) ?_ _ _ _ ⟨b, none, none, none, none, none, none, none, none, none, none, none, none, none, none, st0, rfl⟩) ?_
  · rintro u r e T ⟨b, o2, o3, o4, o5, o6, o7, o8, o9, o10, o11, o12, o13, o14, o15, st, rfl⟩
    have l3 : (3 : Nat) ≤ lim := by decide
    have l2 : (2 : Nat) ≤ lim := by decide
    simp -implicitDefEqProofs only [gNm_eq, ev_ok, List.set_cons_succ, List.set_cons_zero, mSeq_eq, mAsg_eq, mAp_eq, mCons_eq, mVar_0, mVar_s, mNil_eq, mC_eq, ok_bind, ev_bind, gLst_eq, List.length_cons, List.length_nil, Nat.zero_add, Nat.reduceAdd, l3, if_true, names1]
    refine ev_f (d := 4) (by decide) (by decide) (by decide) (by decide) (by decide) st fun f b1 T1 hf i1 st1 => ?_
    simp -implicitDefEqProofs only [ev_ok, gNm_eq, List.set_cons_succ, List.set_cons_zero, seqK_nx, mSeq_eq, mPar_eq, mAsg_eq, mAp_eq, mCons_eq, mVar_0, mVar_s, mNil_eq, mC_eq, ok_bind, ev_bind, gLst_eq, List.length_cons, List.length_nil, Nat.zero_add, Nat.reduceAdd, l3, l2, if_true, names2, names3]
    refine ev_f (d := 3) (by decide) (by decide) (by decide) (by decide) (by decide) st1 fun a b2 T2 ha _ st2 => ?_
    refine ev_f (d := 2) (by decide) (by decide) (by decide) (by decide) (by decide) st2 fun g b3 T3 hg _ st3 => ?_
    have tm1 := fun T => hf.term (S := T) (by decide)
    have tm2 := fun T => ha.term (S := T) (by decide)
    have tm3 := fun T => hg.term (S := T) (by decide)
    have sw := fun e T => swap_ok (S := T) (e := e)
    have du := fun o0 o1 o2 o5 o6 o7 o8 o9 o10 o13 o14 o15 T => due_ok (S := T) (f := f) (a := a) (b := g) (o0 := o0) (o1 := o1) (o2 := o2) (o5 := o5) (o6 := o6) (o7 := o7) (o8 := o8) (o9 := o9) (o10 := o10) (o13 := o13) (o14 := o14) (o15 := o15) hf.dep
    have p3 : ∀ o2 o4 o5 o6 o7 o8 o9 o10 o13 o14 o15 T, mPar3 13 14 15 (mCons (mAp (G__law_term 10) (mCons (mVar 3) mNil)) (mCons (mAp (G__law_term 10) (mCons (mVar 11) mNil)) (mCons (mAp (G__law_term 10) (mCons (mVar 12) mNil)) mNil))) [some sc, some (.ref 1), o2, some (toW f), o4, o5, o6, o7, o8, o9, o10, some (toW a), some (toW g), o13, o14, o15] T = .ok (.nx, [some sc, some (.ref 1), o2, some (toW f), o4, o5, o6, o7, o8, o9, o10, some (toW a), some (toW g), some (termW f), some (termW a), some (termW g)]) T := fun o2 o4 o5 o6 o7 o8 o9 o10 o13 o14 o15 T =>
      par3 (by simp only [mAp_eq, mCons_eq, mNil_eq, mVar_s, mVar_0, ok_bind, tm1, tm2, tm3])
    simp -implicitDefEqProofs only [ev_ok, ev_bind, parK_eq, List.set_cons_succ, List.set_cons_zero, seqK_nx, mSeq_eq, p3, mAsg_eq, ok_bind, gNm_eq, sw, du]
    obtain ⟨T4, k4, e4⟩ := found_ok (S := T3) hf ha hg i1 (o0 := some sc) (o1 := some (.ref 1)) (o2 := some u) (o3 := some (toW f)) (o4 := some swapT) (o5 := some (.lst ((fs f a g).map toW))) (o6 := o6) (o7 := o7) (o8 := o8) (o9 := o9) (o10 := o10) (o11 := some (toW a)) (o12 := some (toW g))
    have st4 := st3.keep k4
    have fd := fs_dr hf ha hg
    have fl : (fs f a g).length ≤ 4 := Nat.le_refl _
    have t1 := fun o0 o1 o2 o3 o4 o7 o8 o9 o10 o11 o12 o13 o14 o15 => test1_ok (S := T4) (fs f a g) fl fd (o0 := o0) (o1 := o1) (o2 := o2) (o3 := o3) (o4 := o4) (o7 := o7) (o8 := o8) (o9 := o9) (o10 := o10) (o11 := o11) (o12 := o12) (o13 := o13) (o14 := o14) (o15 := o15)
    have sz := fun o0 o1 o2 o3 o4 o5 o7 o8 o9 o10 o11 o12 o13 o14 o15 => sizes_ok (S := T4) (fs f a g) fl (o0 := o0) (o1 := o1) (o2 := o2) (o3 := o3) (o4 := o4) (o5 := o5) (o7 := o7) (o8 := o8) (o9 := o9) (o10 := o10) (o11 := o11) (o12 := o12) (o13 := o13) (o14 := o14) (o15 := o15)
    have t2 := fun o0 o1 o2 o4 o6 o8 o9 o10 o12 o15 => test2_ok (S := T4) (fs f a g) fl fd hf ha (o0 := o0) (o1 := o1) (o2 := o2) (o4 := o4) (o6 := o6) (o8 := o8) (o9 := o9) (o10 := o10) (o12 := o12) (o15 := o15)
    have htru : ∀ T, truW T (.bl true) = some true := fun _ => rfl
    generalize (fs f a g).map toW = L1 at e4 t1 sz t2 ⊢
    generalize (fs f a g).map termW = L2 at e4 t1 sz
    generalize (fs f a g).map szW = L3 at sz t2
    simp -implicitDefEqProofs only [e4, ev_ok, ev_bind, List.set_cons_succ, List.set_cons_zero, seqK_nx, mSeq_eq, mAsg_eq, ok_bind, gNm_eq, mIf_eq, mNotT_eq, mTru_eq, t1, htru, Bool.not_true, Bool.false_eq_true, if_false, mSkip_eq, sz, t2, sayM, mAp_eq, mCons_eq, mNil_eq, mC_eq, mVar_0, mVar_s, gLst_eq, List.length_cons, List.length_nil, Nat.zero_add, Nat.reduceAdd, l2, if_true]
    refine ev_one (ws := [Rl3.within, .equal].map fun r => W.str r.s) (.inl rfl) st4.bag st4.ok (by decide) (by decide) fun v b5 hv hb5 => ?_
    have st5 := st4.draw hb5
    generalize T4.set 1 b5.ob = T5 at st5 ⊢
    obtain ⟨r, hrm, rfl⟩ := List.mem_map.mp hv
    have hr : r ≠ .empty := fun z => by rw [z] at hrm; simp at hrm
    obtain ⟨T6, k6, e6⟩ := late_ok (S := T5) hr hf ha hg (o0 := some sc) (o1 := some (.ref 1)) (o2 := some u) (o3 := some (toW f)) (o4 := some swapT) (o5 := some (.lst L1)) (o6 := some (.lst L2)) (o7 := some (.lst L3)) (o9 := o9) (o10 := o10) (o11 := some (toW a)) (o12 := some (toW g)) (o13 := some (termW f)) (o14 := some (termW a))
    have st6 := st5.keep k6
    have kn := fun o0 o1 o2 o3 o4 o5 o6 o7 o8 o9 o10 o11 o13 o14 o15 T => known_ok (S := T) (b := g) (o0 := o0) (o1 := o1) (o2 := o2) (o3 := o3) (o4 := o4) (o5 := o5) (o6 := o6) (o7 := o7) (o8 := o8) (o9 := o9) (o10 := o10) (o11 := o11) (o13 := o13) (o14 := o14) (o15 := o15)
    have t3 := fun o0 o1 o2 o4 o5 o6 o7 o12 o13 o14 o15 T => test3_ok (S := T) hr hf ha hg (o0 := o0) (o1 := o1) (o2 := o2) (o4 := o4) (o5 := o5) (o6 := o6) (o7 := o7) (o12 := o12) (o13 := o13) (o14 := o14) (o15 := o15)
    simp -implicitDefEqProofs only [ev_ok, ev_bind, gTup_eq, List.length_cons, List.length_nil, Nat.zero_add, Nat.reduceAdd, l3, if_true, gNm_eq, List.set_cons_succ, List.set_cons_zero, seqK_nx, mSeq_eq, mAsg_eq, ok_bind, e6, kn, mIf_eq, t3, Bool.false_eq_true, if_false, mSkip_eq, mVar_0, mVar_s]
    exact ⟨trivial, b5, _, _, _, _, _, _, _, _, _, _, _, _, _, _, st6, rfl⟩
  · rintro p T ⟨hp, b, o2, o3, o4, o5, o6, o7, o8, o9, o10, o11, o12, o13, o14, o15, st, he⟩
    obtain ⟨fl, e⟩ := p
    cases hp
    dsimp only at he
    subst he
    simp -implicitDefEqProofs only [seqK_nx, mRet_eq, mAp_eq, mCons_eq, mVar_0, mVar_s, mNil_eq, ok_bind, ev_bind]
    refine (so_ok st).mono ?_
    rintro v T2 rfl
    simp -implicitDefEqProofs only [ev_ok, runK_rt]
/-- the law, in plain terms -/
theorem plain (ns : List Int) (hns : ns.length ≤ 63) : ∃ S, G_law [.flst (ns.map W.int)] [.tab "_law_statements_filled_so"] = .ok (.bl true) S := by
  obtain ⟨v, T, e, rfl⟩ := plain0 ns hns
  exact ⟨T, e⟩
end
end Dk07
end
open PySem PySem.W PyProof.Rows
set_option maxRecDepth 100000 in
set_option maxHeartbeats 0 in
theorem PySem.Challenge.cw_unseenmap_k07_terms_filled_holds : PySem.Challenge.rw_unseenmap_k07_terms_filled.Holds := by
  w_on; o_law; k_head; (case hw => w_witness2)
  k_fill
  refine' RL.walk_lawT (k := 34) (x := "_law_script") (st := Dk07.s_law) (g := Dk07.G_law) [("_law_statements_filled_so", 720, 716)] Dk07.plain (fun _ _ _ _ _ _ _ => rfl) rfl rfl ⟨rfl, by decide, by decide⟩ (fun w h Y => PySem.W.km_in_of Y) ?F
  case F =>
    intro w mg h Y KX G
    have tA0 := RL.tab_one (x := "_law_statements_filled_so") (c := 720) (P := 716) KX G (by kernel_rfl)
    have cT_Statement : RL.ClsT _ mg "Statement" := RL.clsT_mk KX G (by k_is) (by k_is) (by k_is) (by k_is) (by k_is)
    have fT_Statement_own_relation : RL.FldT _ mg "Statement" "own_relation" := RL.fldT_mk KX G (by k_is) cT_Statement (by k_is)
    have fT_Statement_own_one : RL.FldT _ mg "Statement" "own_one" := RL.fldT_mk KX G (by k_is) cT_Statement (by k_is)
    have fT_Statement_own_other : RL.FldT _ mg "Statement" "own_other" := RL.fldT_mk KX G (by k_is) cT_Statement (by k_is)
    have cT_Term : RL.ClsT _ mg "Term" := RL.clsT_mk KX G (by k_is) (by k_is) (by k_is) (by k_is) (by k_is)
    have fT_Term_node : RL.FldT _ mg "Term" "node" := RL.fldT_mk KX G (by k_is) cT_Term (by k_is)
    have fT_Term_deep : RL.FldT _ mg "Term" "deep" := RL.fldT_mk KX G (by k_is) cT_Term (by k_is)
    have fT_Term_part_count : RL.FldT _ mg "Term" "part_count" := RL.fldT_mk KX G (by k_is) cT_Term (by k_is)
    have xT_InvalidTerm : RL.XcT _ mg "InvalidTerm" := RL.xct_mk KX G (by k_is) (by k_is) (by k_is) (by k_is) (by k_is) (by k_is) (by k_is) (by k_is) (by k_is) (by k_is)
    have xT_TooDeep : RL.XcT _ mg "TooDeep" := RL.xct_mk KX G (by k_is) (by k_is) (by k_is) (by k_is) (by k_is) (by k_is) (by k_is) (by k_is) (by k_is) (by k_is)
    have xT_TooMany : RL.XcT _ mg "TooMany" := RL.xct_mk KX G (by k_is) (by k_is) (by k_is) (by k_is) (by k_is) (by k_is) (by k_is) (by k_is) (by k_is) (by k_is)
    have T : Dk07.Txt w _ mg := {
      z_all := PySem.W.mg_none_of KX G (by k_is),
      z_bool := PySem.W.mg_none_of KX G (by k_is),
      z_int := PySem.W.mg_none_of KX G (by k_is),
      z_isinstance := PySem.W.mg_none_of KX G (by k_is),
      z_len := PySem.W.mg_none_of KX G (by k_is),
      z_list := PySem.W.mg_none_of KX G (by k_is),
      z_max := PySem.W.mg_none_of KX G (by k_is),
      z_range := PySem.W.mg_none_of KX G (by k_is),
      z_sorted := PySem.W.mg_none_of KX G (by k_is),
      z_str := PySem.W.mg_none_of KX G (by k_is),
      z_sum := PySem.W.mg_none_of KX G (by k_is),
      z_super := PySem.W.mg_none_of KX G (by k_is),
      z_tuple := PySem.W.mg_none_of KX G (by k_is),
      z_zip := PySem.W.mg_none_of KX G (by k_is),
      c_EMPTY := RL.kcon_str KX G (by k_is),
      c_LETTERS := RL.kcon_str KX G (by k_is),
      c_MOST_DEEP := RL.kcon_int KX G (by k_is),
      c_MOST_LETTERS := RL.kcon_int KX G (by k_is),
      c_MOST_PARTS := RL.kcon_int KX G (by k_is),
      c_RESERVED := RL.kcon_tupS KX G (by k_is) (by k_is) (by decide +kernel) (by decide +kernel),
      c_WORDS := RL.kcon_tupS KX G (by k_is) (by k_is) (by decide +kernel) (by decide +kernel),
      fm_Term := RL.fmt_mk KX G (by k_is) (by k_is) (by k_is),
      ra_InvalidTerm := RL.rat_mk KX G (by k_is) (by k_is) (by k_is),
      ra_TooDeep := RL.rat_mk KX G (by k_is) (by k_is) (by k_is),
      ra_TooMany := RL.rat_mk KX G (by k_is) (by k_is) (by k_is),
      kx := RL.kxTx_mk KX G (by k_is) (by k_is) (by k_is) (fun p m => by simp only [Dk07.kx_tab, List.mem_cons, List.not_mem_nil, or_false] at m; rcases m with rfl | rfl | rfl <;> (dsimp only; exact RL.kxOne_mk KX G (by k_is) (RL.exm_mk (by k_is) (by k_is) (by k_is) (by k_is)) (RL.exm_mk (by k_is) (by k_is) (by k_is) (by k_is)) (RL.exm_mk (by k_is) (by k_is) (by k_is) (by k_is)) (by rfl))),
      d_MIDDLES := RL.kdtab_mk KX G (by k_is) (by k_is) (by repeat (first | exact True.intro | refine ⟨⟨_, _, rfl, rfl⟩, ?_⟩)) (fun kv m => by simp only [Dk07.c_MIDDLES, List.mem_cons, List.not_mem_nil, or_false] at m; rcases m with rfl | rfl <;> exact ⟨_, by k_is⟩),
      d_SHOWN := RL.kdtab_mk KX G (by k_is) (by k_is) (by repeat (first | exact True.intro | refine ⟨⟨_, _, rfl, rfl⟩, ?_⟩)) (fun kv m => by simp only [LTm.c_SHOWN, List.mem_cons, List.not_mem_nil, or_false] at m; rcases m with rfl | rfl | rfl <;> exact ⟨_, by k_is⟩),
      k_Term := RL.kconC_mk KX G (by k_is),
      fl_Statement_own_one := fT_Statement_own_one,
      fl_Statement_own_other := fT_Statement_own_other,
      fl_Statement_own_relation := fT_Statement_own_relation,
      fl_Term_deep := fT_Term_deep,
      fl_Term_node := fT_Term_node,
      fl_Term_part_count := fT_Term_part_count,
      is_Term := RL.isT_mk KX G (by k_is) cT_Term (by k_is) (by k_is) (by k_is) (by k_is) (by k_is) (by k_is) (by k_is) (by k_is) (by k_is) (by k_is) (by k_is) (by k_is) (by k_is) (by k_is) (by k_is) (by k_is) (by k_is) (by k_is) (by k_is),
      x_InvalidTerm := RL.xtx_mk RL.bas_VE Dk07.sx_InvalidTerm KX G (by k_is) (by k_is) (by k_is) (by k_is) (by kx_is) (by kx_is) (by ks_is) (by k_is) (by k_is) (by k_is) (by k_is) (by k_is) (by k_is) (by k_is) (by k_is) (by rfl) (by k_is) (fun z m => by simp only [LTj.l_InvalidTerm, List.mem_cons, List.not_mem_nil, or_false] at m; rcases m with rfl | rfl <;> k_is),
      x_TooDeep := RL.xtx_mk RL.bas_VE Dk07.sx_TooDeep KX G (by k_is) (by k_is) (by k_is) (by k_is) (by kx_is) (by kx_is) (by ks_is) (by k_is) (by k_is) (by k_is) (by k_is) (by k_is) (by k_is) (by k_is) (by k_is) (by rfl) (by k_is) (fun z m => by simp only [LTj.l_TooDeep, List.mem_cons, List.not_mem_nil, or_false] at m; rcases m with rfl | rfl <;> k_is),
      x_TooMany := RL.xtx_mk RL.bas_VE Dk07.sx_TooMany KX G (by k_is) (by k_is) (by k_is) (by k_is) (by kx_is) (by kx_is) (by ks_is) (by k_is) (by k_is) (by k_is) (by k_is) (by k_is) (by k_is) (by k_is) (by k_is) (by rfl) (by k_is) (fun z m => by simp only [LTj.l_TooMany, List.mem_cons, List.not_mem_nil, or_false] at m; rcases m with rfl | rfl <;> k_is),
      xf_code := (RL.xft_cons KX G xT_InvalidTerm (by k_is) (by k_is) (RL.xft_cons KX G xT_TooDeep (by k_is) (by k_is) (RL.xft_cons KX G xT_TooMany (by k_is) (by k_is) RL.xft_nil))),
      xf_fact_name := RL.xft_nil,
      xf_limit := (RL.xft_cons KX G xT_TooDeep (by k_is) (by k_is) (RL.xft_cons KX G xT_TooMany (by k_is) (by k_is) RL.xft_nil)),
      xf_line := RL.xft_nil,
      xf_path := RL.xft_nil,
      xf_sheet_name := RL.xft_nil,
      xf_user := RL.xft_nil,
      xf_value := (RL.xft_cons KX G xT_InvalidTerm (by k_is) (by k_is) RL.xft_nil),
      xf_word := RL.xft_nil,
      bm_Term_filled := RL.bmt_mk KX G (by k_is) (by k_is) (by k_is) (by k_is) (by k_is) (by k_is) (by decide +kernel) (by k_is),
      op_and := RL.ownOpA_mk KX G (by k_is) (by k_is) (by decide +kernel) (by decide +kernel) (by k_is) (by k_is) (by k_is) (by k_is) (by k_is) (by k_is) (by k_is) (by k_is) (by k_is) (by k_is) (by k_is) (by k_is) rfl (by k_is) (by k_is) (by k_is) (by k_is) (by k_is) (by k_is) (by k_is) (by k_is),
      op_or := RL.ownOpA_mk KX G (by k_is) (by k_is) (by decide +kernel) (by decide +kernel) (by k_is) (by k_is) (by k_is) (by k_is) (by k_is) (by k_is) (by k_is) (by k_is) (by k_is) (by k_is) (by k_is) (by k_is) rfl (by k_is) (by k_is) (by k_is) (by k_is) (by k_is) (by k_is) (by k_is) (by k_is),
      op_sub := RL.ownOpA_mk KX G (by k_is) (by k_is) (by decide +kernel) (by decide +kernel) (by k_is) (by k_is) (by k_is) (by k_is) (by k_is) (by k_is) (by k_is) (by k_is) (by k_is) (by k_is) (by k_is) (by k_is) rfl (by k_is) (by k_is) (by k_is) (by k_is) (by k_is) (by k_is) (by k_is) (by k_is),
      f_Term_depth := RL.mtx_mk KX G (by k_is) cT_Term (by k_is) (by k_is) (by k_is) (by k_is) (by k_is) (fun _ _ _ _ _ _ us hl => match us, hl with | [_], _ => rfl),
      f_Term_parts := RL.mtx_mk KX G (by k_is) cT_Term (by k_is) (by k_is) (by k_is) (by k_is) (by k_is) (fun _ _ _ _ _ _ us hl => match us, hl with | [_], _ => rfl),
      f_is_name := RL.ftx_mk KX G (by k_is) (by k_is) (by k_is) (by k_is) (fun _ _ _ _ _ _ us hl => match us, hl with | [_], _ => rfl),
      f_Term___init__ := RL.mkx_mk KX G (by k_is) cT_Term (by k_is) (by k_is) (by k_is) (by k_is) (by k_is) (by k_is) (by k_is) (fun _ _ _ _ _ _ us hl => match us, hl with | [_, _, _, _], _ => rfl) (fun n m => by simp only [List.mem_cons, List.not_mem_nil, or_false] at m; rcases m with rfl | rfl | rfl <;> assumption),
      f_Term_of := RL.stx_mk KX G (by k_is) (by k_is) (by k_is) (by k_is) (by k_is) (by k_is) (by k_is) (by k_is) (by k_is) (fun _ _ _ _ _ _ us hl => match us, hl with | [_], _ => rfl),
      f_inner_nodes := RL.ftx_mk KX G (by k_is) (by k_is) (by k_is) (by k_is) (fun _ _ _ _ _ _ us hl => match us, hl with | [_], _ => rfl),
      f_node_names := RL.ftx_mk KX G (by k_is) (by k_is) (by k_is) (by k_is) (fun _ _ _ _ _ _ us hl => match us, hl with | [_], _ => rfl),
      f_Term_names := RL.mtx_mk KX G (by k_is) cT_Term (by k_is) (by k_is) (by k_is) (by k_is) (by k_is) (fun _ _ _ _ _ _ us hl => match us, hl with | [_], _ => rfl),
      f_put_in := RL.ftx_mk KX G (by k_is) (by k_is) (by k_is) (by k_is) (fun _ _ _ _ _ _ us hl => match us, hl with | [_, _], _ => rfl),
      f_depth_in := RL.ftx_mk KX G (by k_is) (by k_is) (by k_is) (by k_is) (fun _ _ _ _ _ _ us hl => match us, hl with | [_, _], _ => rfl),
      f_parts_in := RL.ftx_mk KX G (by k_is) (by k_is) (by k_is) (by k_is) (fun _ _ _ _ _ _ us hl => match us, hl with | [_, _], _ => rfl),
      f_need_size := RL.ftx_mk KX G (by k_is) (by k_is) (by k_is) (by k_is) (fun _ _ _ _ _ _ us hl => match us, hl with | [_, _], _ => rfl),
      f_Term_replaced := RL.mtx_mk KX G (by k_is) cT_Term (by k_is) (by k_is) (by k_is) (by k_is) (by k_is) (fun _ _ _ _ _ _ us hl => match us, hl with | [_, _], _ => rfl),
      f_Term_filled := RL.kwtx_mk KX G (by k_is) cT_Term (by k_is) (by k_is) (by k_is) (by k_is) (by k_is),
      f_node_text := RL.ftx_mk KX G (by k_is) (by k_is) (by k_is) (by k_is) (fun _ _ _ _ _ _ us hl => match us, hl with | [_], _ => rfl),
      f_Term_text := RL.mtx_mk KX G (by k_is) cT_Term (by k_is) (by k_is) (by k_is) (by k_is) (by k_is) (fun _ _ _ _ _ _ us hl => match us, hl with | [_], _ => rfl),
      f_Statement___init__ := RL.mkx_mk KX G (by k_is) cT_Statement (by k_is) (by k_is) (by k_is) (by k_is) (by k_is) (by k_is) (by k_is) (fun _ _ _ _ _ _ us hl => match us, hl with | [_, _, _, _], _ => rfl) (fun n m => by simp only [List.mem_cons, List.not_mem_nil, or_false] at m; rcases m with rfl | rfl | rfl <;> assumption),
      f_Statement_replaced := RL.mtx_mk KX G (by k_is) cT_Statement (by k_is) (by k_is) (by k_is) (by k_is) (by k_is) (fun _ _ _ _ _ _ us hl => match us, hl with | [_, _], _ => rfl),
      f_Statement_filled := RL.kwtx_mk KX G (by k_is) cT_Statement (by k_is) (by k_is) (by k_is) (by k_is) (by k_is),
      f_Term___str__ := RL.mtx_mk KX G (by k_is) cT_Term (by k_is) (by k_is) (by k_is) (by k_is) (by k_is) (fun _ _ _ _ _ _ us hl => match us, hl with | [_], _ => rfl),
      f_Statement_text := RL.mtx_mk KX G (by k_is) cT_Statement (by k_is) (by k_is) (by k_is) (by k_is) (by k_is) (fun _ _ _ _ _ _ us hl => match us, hl with | [_], _ => rfl),
      f__law_cells := RL.ftx_mk KX G (by k_is) (by k_is) (by k_is) (by k_is) (fun _ _ _ _ _ _ us hl => match us, hl with | [_], _ => rfl),
      f__law_draw := RL.ftx_mk KX G (by k_is) (by k_is) (by k_is) (by k_is) (fun _ _ _ _ _ _ us hl => match us, hl with | [_, _], _ => rfl),
      f__law_one := RL.ftx_mk KX G (by k_is) (by k_is) (by k_is) (by k_is) (fun _ _ _ _ _ _ us hl => match us, hl with | [_, _], _ => rfl),
      f__law_same := RL.ftx_mk KX G (by k_is) (by k_is) (by k_is) (by k_is) (fun _ _ _ _ _ _ us hl => match us, hl with | [_, _], _ => rfl),
      f__law_leaf := RL.ftx_mk KX G (by k_is) (by k_is) (by k_is) (by k_is) (fun _ _ _ _ _ _ us hl => match us, hl with | [_, _], _ => rfl),
      f__law_form := RL.ftx_mk KX G (by k_is) (by k_is) (by k_is) (by k_is) (fun _ _ _ _ _ _ us hl => match us, hl with | [_, _, _], _ => rfl),
      f__law_text := RL.ftx_mk KX G (by k_is) (by k_is) (by k_is) (by k_is) (fun _ _ _ _ _ _ us hl => match us, hl with | [_], _ => rfl),
      f_Term_whole := RL.stx_mk KX G (by k_is) (by k_is) (by k_is) (by k_is) (by k_is) (by k_is) (by k_is) (by k_is) (by k_is) (fun _ _ _ _ _ _ us hl => match us, hl with | [], _ => rfl),
      f_Term_nothing := RL.stx_mk KX G (by k_is) (by k_is) (by k_is) (by k_is) (by k_is) (by k_is) (by k_is) (by k_is) (by k_is) (fun _ _ _ _ _ _ us hl => match us, hl with | [], _ => rfl),
      f_joined := RL.startx_mk KX G (by k_is) (by k_is) (by k_is) (by k_is) (fun us rest hl => match us, rest, hl with | [_], [], _ => rfl | [_], _ :: _, _ => rfl),
      f_Term___or__ := RL.mtx_mk KX G (by k_is) cT_Term (by k_is) (by k_is) (by k_is) (by k_is) (by k_is) (fun _ _ _ _ _ _ us hl => match us, hl with | [_, _], _ => rfl),
      f_Term___ror__ := RL.mtx_mk KX G (by k_is) cT_Term (by k_is) (by k_is) (by k_is) (by k_is) (by k_is) (fun _ _ _ _ _ _ us hl => match us, hl with | [_, _], _ => rfl),
      f_Term___and__ := RL.mtx_mk KX G (by k_is) cT_Term (by k_is) (by k_is) (by k_is) (by k_is) (by k_is) (fun _ _ _ _ _ _ us hl => match us, hl with | [_, _], _ => rfl),
      f_Term___rand__ := RL.mtx_mk KX G (by k_is) cT_Term (by k_is) (by k_is) (by k_is) (by k_is) (by k_is) (fun _ _ _ _ _ _ us hl => match us, hl with | [_, _], _ => rfl),
      f_Term___sub__ := RL.mtx_mk KX G (by k_is) cT_Term (by k_is) (by k_is) (by k_is) (by k_is) (by k_is) (fun _ _ _ _ _ _ us hl => match us, hl with | [_, _], _ => rfl),
      f_Term___rsub__ := RL.mtx_mk KX G (by k_is) cT_Term (by k_is) (by k_is) (by k_is) (by k_is) (by k_is) (fun _ _ _ _ _ _ us hl => match us, hl with | [_, _], _ => rfl),
      f_Term___invert__ := RL.mtx_mk KX G (by k_is) cT_Term (by k_is) (by k_is) (by k_is) (by k_is) (by k_is) (fun _ _ _ _ _ _ us hl => match us, hl with | [_], _ => rfl),
      f_Term_closed := RL.mtx_mk KX G (by k_is) cT_Term (by k_is) (by k_is) (by k_is) (by k_is) (by k_is) (fun _ _ _ _ _ _ us hl => match us, hl with | [_], _ => rfl),
      f_Term_opened := RL.mtx_mk KX G (by k_is) cT_Term (by k_is) (by k_is) (by k_is) (by k_is) (by k_is) (fun _ _ _ _ _ _ us hl => match us, hl with | [_], _ => rfl),
      f_Term_rim := RL.mtx_mk KX G (by k_is) cT_Term (by k_is) (by k_is) (by k_is) (by k_is) (by k_is) (fun _ _ _ _ _ _ us hl => match us, hl with | [_], _ => rfl),
      f__law_term := RL.ftx_mk KX G (by k_is) (by k_is) (by k_is) (by k_is) (fun _ _ _ _ _ _ us hl => match us, hl with | [_], _ => rfl),
      f__law_saying_text := RL.ftx_mk KX G (by k_is) (by k_is) (by k_is) (by k_is) (fun _ _ _ _ _ _ us hl => match us, hl with | [_], _ => rfl),
      f_Statement_empty := RL.stx_mk KX G (by k_is) (by k_is) (by k_is) (by k_is) (by k_is) (by k_is) (by k_is) (by k_is) (by k_is) (fun _ _ _ _ _ _ us hl => match us, hl with | [_], _ => rfl),
      f_Statement_within := RL.stx_mk KX G (by k_is) (by k_is) (by k_is) (by k_is) (by k_is) (by k_is) (by k_is) (by k_is) (by k_is) (fun _ _ _ _ _ _ us hl => match us, hl with | [_, _], _ => rfl),
      f_Statement_equal := RL.stx_mk KX G (by k_is) (by k_is) (by k_is) (by k_is) (by k_is) (by k_is) (by k_is) (by k_is) (by k_is) (fun _ _ _ _ _ _ us hl => match us, hl with | [_, _], _ => rfl),
      f__law_statement := RL.ftx_mk KX G (by k_is) (by k_is) (by k_is) (by k_is) (fun _ _ _ _ _ _ us hl => match us, hl with | [_], _ => rfl),
      f__law_filled := RL.ftx_mk KX G (by k_is) (by k_is) (by k_is) (by k_is) (fun _ _ _ _ _ _ us hl => match us, hl with | [_, _], _ => rfl),
      f__law_size := RL.ftx_mk KX G (by k_is) (by k_is) (by k_is) (by k_is) (fun _ _ _ _ _ _ us hl => match us, hl with | [_], _ => rfl),
      f__law_extra := RL.ftx_mk KX G (by k_is) (by k_is) (by k_is) (by k_is) (fun _ _ _ _ _ _ us hl => match us, hl with | [_], _ => rfl),
      f__law_why := RL.ftx_mk KX G (by k_is) (by k_is) (by k_is) (by k_is) (fun _ _ _ _ _ _ us hl => match us, hl with | [_], _ => rfl),
      f__law_whys := RL.ftx_mk KX G (by k_is) (by k_is) (by k_is) (by k_is) (fun _ _ _ _ _ _ us hl => match us, hl with | [_], _ => rfl),
      f__law_statements_filled_so := RL.ftx_mk KX G (by k_is) (by k_is) (by k_is) (by k_is) (fun _ _ _ _ _ _ us hl => match us, hl with | [_], _ => rfl),
      f_law := RL.ftx_mk KX G (by k_is) (by k_is) (by k_is) (by k_is) (fun _ _ _ _ _ _ us hl => match us, hl with | [_], _ => rfl)
    }
    have TL := RL.tabL_cons tA0 (by kernel_rfl) (PySem.W.km_tabs_of Y _ (by simp)) (by kernel_rfl) (RL.tabL_nil) (by decide)
    exact ⟨T.f_law, TL, fun base HT => Dk07.all_ok T ⟨by decide +kernel, by decide +kernel⟩ (HT _ List.mem_cons_self)⟩
